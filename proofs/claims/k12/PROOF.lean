import PyProof.Rows.All
import Wide.All
import OpenK.AllK
import Wide.FinOn
import HandS.ClsMeth
import HandS.Comp
import HandS.Deep
import HandS.Dict
import HandS.Exc
import HandS.ExcField
import HandS.ExcInit
import HandS.ExcIs
import HandS.ExcOwn
import HandS.ExcSuper
import HandS.FStr
import HandS.Flow
import HandS.IsInst
import HandS.Iter
import HandS.IterVal
import HandS.List
import HandS.OwnIter
import HandS.Property
import HandS.Star
import HandS.StrMore
import HandS.Style
import HandS.Text
import HandS.TryOnly
import HandS.TupAny
import HandS.Wide
import HandS.WordsExc
import KE.KExcIs
import KE.KExcSuper
import KE.KxField
import KE.OsGo
import KE.RegKSuper
import Open.SpecLaws
import PyProof.FString3
import PyProof.P3Eq
import PySem.Challenge.RW_strikeloops_k12_edge_tables
set_option Elab.async false
set_option linter.all false
section
set_option maxRecDepth 100000
namespace WL
open PySem PySem.Spec L2
open PyProof.Rows hiding St
set_option autoImplicit true

inductive W where
  | non | bl (b : Bool) | int (i : Int) | str (x : Str) | tup (ws : List W) | ref (l : Nat) | ty (n : String) | opq | scr (ns : List Int)
inductive GO where
  | lst (ws : List W)
  | dK (kvs : List (Key × W))
  | dT (kvs : List (List Key × W))
  | ins (c : Nat) (fs : List (Nat × W))
abbrev G := List GO
inductive Out (α : Type) where
  | ok (a : α) (g : G)
  | ex (c : Nat) (fs : List (Nat × W)) (g : G)
  | bad
def Out.bind {α β : Type} (r : Out α) (k : α → G → Out β) : Out β := match r with
  | .ok a g => k a g
  | .ex c fs g => .ex c fs g
  | .bad => .bad
abbrev Sg := List (Option W)
abbrev ED := Sg → G → Out W
abbrev TD := Sg → G → Out Bool
abbrev AD := Sg → G → Out (List W)
inductive Fl where
  | nx (σ : Sg) (g : G)
  | rt (w : W) (g : G)
  | bk (σ : Sg) (g : G)
  | ct (σ : Sg) (g : G)
  | ex (c : Nat) (fs : List (Nat × W)) (σ : Sg) (g : G)
  | bad
abbrev SD := Sg → G → Fl
abbrev FD := List W → G → Out W

/-- the written part; where the classes of the text stand; the attributes that are read and stored -/
structure ExA where
  a : Addr
  slot : Nat
  dd : Addr
  c : Nat
  fs : List (Nat × W)
structure Tab where
  K : PySem.W.Frag
  cls : Nat → Option Addr
  fns : List Str
  nd : fns.Nodup
  /-- within an except suite: the exception that is held -/
  exa : Option ExA := none
/-- not within an except suite -/
class NoEx (T : Tab) : Prop where
  no : T.exa = none
variable {T : Tab}
def Scr (T : Tab) (H : Hp) (a : Addr) (ns : List Int) : Prop := (∃ o, H a = some (.frz o (.lst (ns.map V.int)))) ∨
  ∃ (o : Obj) (its : Array Value) (n : Nat), T.K.lookup a = some o ∧ o.cls = .type "list" ∧ o.dict = none ∧ o.data = .seq its n ∧ its.size ≤ sizeLine ∧ Vals (ns.map V.int) its.toList
theorem Scr.seq {H : Hp} {a : Addr} {ns : List Int} (h : Scr T H a ns) : SqL T.K H a (ns.map V.int) := h.elim (fun ⟨o, e⟩ => .inl (.inr ⟨o, e⟩)) .inr
mutual
def RW (T : Tab) (ρ : List Addr) (H : Hp) : W → V → Prop
  | .non, v => v = .non
  | .bl b, v => v = .bl b
  | .int i, v => v = .int i
  | .str x, v => v = .str x
  | .tup ws, v => ∃ a vs, v = .ref a ∧ H a = some (.tup vs) ∧ RWs T ρ H ws vs
  | .ref l, v => ∃ a, ρ[l]? = some a ∧ v = .ref a
  | .ty n, v => v = .ty n
  | .opq, _ => True
  | .scr ns, v => ∃ a, v = .ref a ∧ Scr T H a ns
def RWs (T : Tab) (ρ : List Addr) (H : Hp) : List W → List V → Prop
  | [], vs => vs = []
  | w :: ws, vs => ∃ v r, vs = v :: r ∧ RW T ρ H w v ∧ RWs T ρ H ws r
end
def RF (T : Tab) (ρ : List Addr) (H : Hp) : List (Nat × W) → List (Str × V) → Prop
  | [], vs => vs = []
  | (f, w) :: ws, vs => ∃ n v r, vs = (n, v) :: r ∧ T.fns[f]? = some n ∧ RW T ρ H w v ∧ RF T ρ H ws r
def RS0 (T : Tab) (ρ : List Addr) (H : Hp) : Sg → St → Prop
  | [], σ => σ = []
  | none :: ws, σ => ∃ v r, σ = v :: r ∧ RS0 T ρ H ws r
  | some w :: ws, σ => ∃ v r, σ = some v :: r ∧ RW T ρ H w v ∧ RS0 T ρ H ws r
def ExAt (T : Tab) (ρ : List Addr) (H : Hp) (σ : St) : Prop := ∀ p, T.exa = some p → σ[p.slot]? = some (some (.ref p.a)) ∧ ∃ vs, H p.dd = some (.xd vs) ∧ RF T ρ H p.fs vs
def RS (T : Tab) (ρ : List Addr) (H : Hp) (ws : Sg) (σ : St) : Prop := RS0 T ρ H ws σ ∧ ExAt T ρ H σ
structure Grow (ρ : List Addr) (H : Hp) (ρ' : List Addr) (H' : Hp) : Prop where
  pre : ∀ (l : Nat) (a : Addr), ρ[l]? = some a → ρ'[l]? = some a
  tup : ∀ (a : Addr) (vs : List V), H a = some (.tup vs) → H' a = some (.tup vs)
  frz : ∀ (a : Addr) (o : Obj) (u : HO), H a = some (.frz o u) → H' a = some (.frz o u)
  xd : ∀ (a : Addr) (vs : List (Str × V)), H a = some (.xd vs) → H' a = some (.xd vs)
theorem Grow.refl {ρ H} : Grow ρ H ρ H := ⟨fun _ _ h => h, fun _ _ h => h, fun _ _ _ h => h, fun _ _ h => h⟩
theorem Grow.trans {ρ H ρ1 H1 ρ2 H2} (a : Grow ρ H ρ1 H1) (b : Grow ρ1 H1 ρ2 H2) : Grow ρ H ρ2 H2 := ⟨fun l x h => b.pre l x (a.pre l x h), fun l x h => b.tup l x (a.tup l x h), fun l o x h => b.frz l o x (a.frz l o x h), fun l x h => b.xd l x (a.xd l x h)⟩
mutual
theorem RW.mono {ρ H ρ' H'} (gr : Grow ρ H ρ' H') : ∀ (w : W) (v : V), RW T ρ H w v → RW T ρ' H' w v
  | .non, _, h => by simpa only [RW] using h
  | .bl _, _, h => by simpa only [RW] using h
  | .int _, _, h => by simpa only [RW] using h
  | .str _, _, h => by simpa only [RW] using h
  | .tup ws, _, h => by
    simp only [RW] at h ⊢
    obtain ⟨a, vs, e, t, r⟩ := h
    exact ⟨a, vs, e, gr.tup _ _ t, RWs.mono gr ws vs r⟩
  | .ref l, _, h => by
    simp only [RW] at h ⊢
    obtain ⟨a, e, q⟩ := h
    exact ⟨a, gr.pre _ _ e, q⟩
  | .ty _, _, h => by simpa only [RW] using h
  | .opq, _, _ => by simp only [RW]
  | .scr ns, _, h => by
    simp only [RW] at h ⊢
    obtain ⟨a, e, q⟩ := h
    exact ⟨a, e, q.elim (fun ⟨o, z⟩ => .inl ⟨o, gr.frz _ _ _ z⟩) .inr⟩
theorem RWs.mono {ρ H ρ' H'} (gr : Grow ρ H ρ' H') : ∀ (ws : List W) (vs : List V), RWs T ρ H ws vs → RWs T ρ' H' ws vs
  | [], _, h => by simpa only [RWs] using h
  | w :: ws, _, h => by
    simp only [RWs] at h ⊢
    obtain ⟨v, r, e, a, b⟩ := h
    exact ⟨v, r, e, RW.mono gr w v a, RWs.mono gr ws r b⟩
end
theorem RF.mono {ρ H ρ' H'} (gr : Grow ρ H ρ' H') : ∀ (ws : List (Nat × W)) (vs : List (Str × V)), RF T ρ H ws vs → RF T ρ' H' ws vs
  | [], _, h => h
  | (f, w) :: ws, _, h => by
    obtain ⟨n, v, r, e, z, a, b⟩ := h
    exact ⟨n, v, r, e, z, RW.mono gr w v a, RF.mono gr ws r b⟩
theorem RS0.mono {ρ H ρ' H'} (gr : Grow ρ H ρ' H') : ∀ (ws : Sg) (σ : St), RS0 T ρ H ws σ → RS0 T ρ' H' ws σ
  | [], _, h => h
  | none :: ws, _, h => by
    obtain ⟨v, r, e, b⟩ := h
    exact ⟨v, r, e, RS0.mono gr ws r b⟩
  | some w :: ws, _, h => by
    obtain ⟨v, r, e, a, b⟩ := h
    exact ⟨v, r, e, RW.mono gr w v a, RS0.mono gr ws r b⟩
theorem ExAt.mono {ρ H ρ' H' σ} (gr : Grow ρ H ρ' H') (h : ExAt T ρ H σ) : ExAt T ρ' H' σ := fun p e => by
  obtain ⟨a, vs, b, c⟩ := h p e
  exact ⟨a, vs, gr.xd _ _ b, c.mono gr _ _⟩
theorem RS.mono {ρ H ρ' H'} (gr : Grow ρ H ρ' H') (ws : Sg) (σ : St) (h : RS T ρ H ws σ) : RS T ρ' H' ws σ := ⟨h.1.mono gr _ _, h.2.mono gr⟩
theorem ExAt.no [n : NoEx T] {ρ H σ} : ExAt T ρ H σ := fun p e => by rw [n.no] at e; cases e
theorem RWs.length {ρ H} : ∀ {ws : List W} {vs : List V}, RWs T ρ H ws vs → ws.length = vs.length
  | [], _, h => by simp only [RWs] at h; subst h; rfl
  | w :: ws, _, h => by
    simp only [RWs] at h
    obtain ⟨v, r, rfl, _, b⟩ := h
    simp only [List.length_cons, RWs.length b]
theorem RWs.get {ρ H} : ∀ {ws : List W} {vs : List V} {i : Nat} {w : W}, RWs T ρ H ws vs → ws[i]? = some w → ∃ v, vs[i]? = some v ∧ RW T ρ H w v
  | [], _, _, _, _, e => by simp at e
  | w :: ws, _, 0, _, h, e => by
    simp only [RWs] at h
    obtain ⟨v, r, rfl, a, _⟩ := h
    simp at e; subst e
    exact ⟨v, rfl, a⟩
  | w :: ws, _, i + 1, x, h, e => by
    simp only [RWs] at h
    obtain ⟨v, r, rfl, _, b⟩ := h
    obtain ⟨v', e', q⟩ := RWs.get (i := i) (w := x) b (by simpa using e)
    exact ⟨v', by simpa using e', q⟩
theorem RWs.append {ρ H} : ∀ {ws ys : List W} {vs us : List V}, RWs T ρ H ws vs → RWs T ρ H ys us → RWs T ρ H (ws ++ ys) (vs ++ us)
  | [], _, _, _, h, k => by simp only [RWs] at h; subst h; exact k
  | w :: ws, _, _, _, h, k => by
    simp only [RWs, List.cons_append] at h ⊢
    obtain ⟨v, r, rfl, a, b⟩ := h
    exact ⟨v, r ++ _, rfl, a, RWs.append b k⟩
theorem RWs.nil {ρ H} : RWs T ρ H [] [] := by simp only [RWs]
theorem RWs.cons {ρ H w v ws vs} (a : RW T ρ H w v) (b : RWs T ρ H ws vs) : RWs T ρ H (w :: ws) (v :: vs) := by simp only [RWs]; exact ⟨v, vs, rfl, a, b⟩
theorem RWs.one {ρ H w vs} (h : RWs T ρ H [w] vs) : ∃ v, vs = [v] ∧ RW T ρ H w v := by
  simp only [RWs] at h
  obtain ⟨v, r, rfl, a, rfl⟩ := h
  exact ⟨v, rfl, a⟩
theorem RS0.length {ρ H} : ∀ {ws : Sg} {σ : St}, RS0 T ρ H ws σ → ws.length = σ.length
  | [], _, h => by have h : _ = [] := h; subst h; rfl
  | none :: ws, _, h => by
    obtain ⟨v, r, rfl, b⟩ := h
    simp only [List.length_cons, RS0.length b]
  | some w :: ws, _, h => by
    obtain ⟨v, r, rfl, a, b⟩ := h
    simp only [List.length_cons, RS0.length b]
theorem RS0.get {ρ H} : ∀ {ws : Sg} {σ : St} {i : Nat} {w : W}, RS0 T ρ H ws σ → ws[i]? = some (some w) → ∃ v, σ[i]? = some (some v) ∧ RW T ρ H w v
  | [], _, _, _, _, e => by simp at e
  | none :: ws, _, 0, _, h, e => by simp at e
  | some w :: ws, _, 0, _, h, e => by
    obtain ⟨v, r, rfl, a, _⟩ := h
    simp at e; subst e
    exact ⟨v, rfl, a⟩
  | none :: ws, _, i + 1, x, h, e => by
    obtain ⟨v, r, rfl, b⟩ := h
    obtain ⟨v', e', q⟩ := RS0.get (i := i) (w := x) b (by simpa using e)
    exact ⟨v', by simpa using e', q⟩
  | some w :: ws, _, i + 1, x, h, e => by
    obtain ⟨v, r, rfl, _, b⟩ := h
    obtain ⟨v', e', q⟩ := RS0.get (i := i) (w := x) b (by simpa using e)
    exact ⟨v', by simpa using e', q⟩
theorem RS0.set {ρ H w v} (a : RW T ρ H w v) : ∀ {ws : Sg} {σ : St} (i : Nat), RS0 T ρ H ws σ → RS0 T ρ H (ws.set i (some w)) (σ.set i (some v))
  | [], _, _, h => by have h : _ = [] := h; subst h; exact rfl
  | none :: ws, _, 0, h => by
    obtain ⟨u, r, rfl, b⟩ := h
    exact ⟨v, r, rfl, a, b⟩
  | some _ :: ws, _, 0, h => by
    obtain ⟨u, r, rfl, _, b⟩ := h
    exact ⟨v, r, rfl, a, b⟩
  | none :: ws, _, i + 1, h => by
    obtain ⟨u, r, rfl, b⟩ := h
    exact ⟨u, r.set i (some v), rfl, RS0.set a i b⟩
  | some _ :: ws, _, i + 1, h => by
    obtain ⟨u, r, rfl, q, b⟩ := h
    exact ⟨u, r.set i (some v), rfl, q, RS0.set a i b⟩
theorem RS0.unset {ρ H v} : ∀ {ws : Sg} {σ : St} (i : Nat), RS0 T ρ H ws σ → RS0 T ρ H (ws.set i none) (σ.set i v)
  | [], _, _, h => by have h : _ = [] := h; subst h; exact rfl
  | none :: ws, _, 0, h => by
    obtain ⟨u, r, rfl, b⟩ := h
    exact ⟨v, r, rfl, b⟩
  | some _ :: ws, _, 0, h => by
    obtain ⟨u, r, rfl, _, b⟩ := h
    exact ⟨v, r, rfl, b⟩
  | none :: ws, _, i + 1, h => by
    obtain ⟨u, r, rfl, b⟩ := h
    exact ⟨u, r.set i v, rfl, RS0.unset i b⟩
  | some _ :: ws, _, i + 1, h => by
    obtain ⟨u, r, rfl, q, b⟩ := h
    exact ⟨u, r.set i v, rfl, q, RS0.unset i b⟩
theorem RS0.weak {ρ H} : ∀ {ws : Sg} {σ : St} (i : Nat), RS0 T ρ H ws σ → RS0 T ρ H (ws.set i none) σ
  | [], _, _, h => h
  | none :: ws, _, 0, h => h
  | some _ :: ws, _, 0, h => by
    obtain ⟨u, r, rfl, _, b⟩ := h
    exact ⟨some u, r, rfl, b⟩
  | none :: ws, _, i + 1, h => by
    obtain ⟨u, r, rfl, b⟩ := h
    exact ⟨u, r, rfl, RS0.weak i b⟩
  | some _ :: ws, _, i + 1, h => by
    obtain ⟨u, r, rfl, q, b⟩ := h
    exact ⟨u, r, rfl, q, RS0.weak i b⟩
theorem RS.length {ρ H} {ws : Sg} {σ : St} (h : RS T ρ H ws σ) : ws.length = σ.length := h.1.length
theorem RS.get {ρ H} {ws : Sg} {σ : St} {i : Nat} {w : W} (h : RS T ρ H ws σ) (e : ws[i]? = some (some w)) : ∃ v, σ[i]? = some (some v) ∧ RW T ρ H w v := h.1.get e
theorem RS.set [NoEx T] {ρ H w v} (a : RW T ρ H w v) {ws : Sg} {σ : St} (i : Nat) (h : RS T ρ H ws σ) : RS T ρ H (ws.set i (some w)) (σ.set i (some v)) := ⟨h.1.set a i, .no⟩
theorem RS.unset [NoEx T] {ρ H v} {ws : Sg} {σ : St} (i : Nat) (h : RS T ρ H ws σ) : RS T ρ H (ws.set i none) (σ.set i v) := ⟨h.1.unset i, .no⟩
theorem RS.weak {ρ H} {ws : Sg} {σ : St} (i : Nat) (h : RS T ρ H ws σ) : RS T ρ H (ws.set i none) σ := ⟨h.1.weak i, h.2⟩
theorem fn_inj {f k : Nat} {n : Str} (h : T.fns[f]? = some n) (h' : T.fns[k]? = some n) : f = k := by
  obtain ⟨a, b⟩ := List.getElem?_eq_some_iff.mp h
  obtain ⟨c, d⟩ := List.getElem?_eq_some_iff.mp h'
  exact (List.getElem_inj T.nd).mp (b.trans d.symm)
def getW (f : Nat) : List (Nat × W) → Option W
  | [] => none
  | (k, x) :: r => if k = f then some x else getW f r
def putW (f : Nat) (v : W) : List (Nat × W) → List (Nat × W)
  | [] => [(f, v)]
  | (k, x) :: r => if k = f then (k, v) :: r else (k, x) :: putW f v r
theorem RF.lookup {ρ H} : ∀ {fs : List (Nat × W)} {vs : List (Str × V)} {f : Nat} {n : Str} {w : W}, RF T ρ H fs vs → T.fns[f]? = some n → getW f fs = some w → ∃ v, vs.lookup n = some v ∧ RW T ρ H w v
  | [], _, _, _, _, h, _, e => by cases e
  | (k, x) :: fs, _, f, n, w, h, hn, e => by
    obtain ⟨m, v, r, rfl, z, a, b⟩ := h
    simp only [getW] at e
    split at e
    · rename_i hk
      subst hk
      cases e
      rw [hn] at z
      cases z
      exact ⟨v, by simp [List.lookup], a⟩
    · rename_i hk
      have ne : (n == m) = false := by
        rw [beq_eq_false_iff_ne]
        exact fun q => hk (fn_inj z (q ▸ hn))
      obtain ⟨v', e', q⟩ := RF.lookup b hn e
      exact ⟨v', by simp only [List.lookup, ne]; exact e', q⟩
theorem RF.absent {ρ H} {m : Str} : ∀ {fs : List (Nat × W)} {vs : List (Str × V)}, RF T ρ H fs vs → m ∉ T.fns → vs.lookup m = none
  | [], _, h, _ => by have h : _ = [] := h; subst h; rfl
  | (k, x) :: fs, _, h, hm => by
    obtain ⟨n, v, r, rfl, z, a, b⟩ := h
    have ne : (m == n) = false := by
      rw [beq_eq_false_iff_ne]
      exact fun q => hm (q ▸ List.mem_of_getElem? z)
    simp only [List.lookup, ne]
    exact RF.absent b hm
theorem RF.length {ρ H} : ∀ {fs : List (Nat × W)} {vs : List (Str × V)}, RF T ρ H fs vs → fs.length = vs.length
  | [], _, h => by have h : _ = [] := h; subst h; rfl
  | (k, w) :: fs, _, h => by
    obtain ⟨n, v, r, rfl, z, a, b⟩ := h
    simp only [List.length_cons, RF.length b]
theorem RF.put {ρ H f n w v} (a : RW T ρ H w v) (hn : T.fns[f]? = some n) : ∀ {fs : List (Nat × W)} {vs : List (Str × V)}, RF T ρ H fs vs → RF T ρ H (putW f w fs) (putF n v vs)
  | [], _, h => by
    have h : _ = [] := h
    subst h
    exact ⟨n, v, [], rfl, hn, a, rfl⟩
  | (k, x) :: fs, _, h => by
    obtain ⟨m, u, r, rfl, z, q, b⟩ := h
    show RF T ρ H (if k = f then (k, w) :: fs else (k, x) :: putW f w fs) (if m = n then (m, v) :: r else (m, u) :: putF n v r)
    by_cases e : k = f
    · subst e
      rw [hn] at z
      cases z
      rw [if_pos rfl, if_pos rfl]
      exact ⟨_, v, r, rfl, hn, a, b⟩
    · rw [if_neg e, if_neg (fun (q : m = n) => e (fn_inj z (q ▸ hn)))]
      exact ⟨m, u, _, rfl, z, q, RF.put a hn b⟩

/-- a dict's pairs: the same keys -/
def RD {κ : Type} (T : Tab) (ρ : List Addr) (H : Hp) : List (κ × W) → List (κ × V) → Prop
  | [], vs => vs = []
  | (k, w) :: ws, vs => ∃ v r, vs = (k, v) :: r ∧ RW T ρ H w v ∧ RD T ρ H ws r
theorem RD.mono {κ : Type} {ρ H ρ' H'} (gr : Grow ρ H ρ' H') : ∀ (ws : List (κ × W)) (vs : List (κ × V)), RD T ρ H ws vs → RD T ρ' H' ws vs
  | [], _, h => h
  | (f, w) :: ws, _, h => by
    obtain ⟨v, r, e, a, b⟩ := h
    exact ⟨v, r, e, RW.mono gr w v a, RD.mono gr ws r b⟩
theorem RD.length {κ : Type} {ρ H} : ∀ {fs : List (κ × W)} {vs : List (κ × V)}, RD T ρ H fs vs → fs.length = vs.length
  | [], _, h => by have h : _ = [] := h; subst h; rfl
  | (k, w) :: fs, _, h => by
    obtain ⟨v, r, rfl, a, b⟩ := h
    simp only [List.length_cons, RD.length b]
section
variable {κ : Type} [DecidableEq κ]
def getK (k : κ) : List (κ × W) → Option W
  | [] => none
  | (j, x) :: r => if j = k then some x else getK k r
def putKW (k : κ) (w : W) : List (κ × W) → List (κ × W)
  | [] => [(k, w)]
  | (j, x) :: r => if j = k then (j, w) :: r else (j, x) :: putKW k w r
theorem RD.val {ρ H} {k : κ} : ∀ {ws : List (κ × W)} {vs : List (κ × V)}, RD T ρ H ws vs → (∀ w, getK k ws = some w → ∃ v, valV vs k = some v ∧ RW T ρ H w v) ∧ (getK k ws = none → valV vs k = none)
  | [], _, h => by
    have h : _ = [] := h
    subst h
    exact ⟨fun w e => (by cases e), fun _ => rfl⟩
  | (j, x) :: r, _, h => by
    obtain ⟨v, r', rfl, a, b⟩ := h
    by_cases e : j = k
    · subst e
      rw [valV_pos (p := (j, v)) rfl]
      simp only [getK, if_true]
      exact ⟨fun w e => by cases e; exact ⟨v, rfl, a⟩, fun e => by cases e⟩
    · rw [valV_neg (p := (j, v)) e]
      simp only [getK, if_neg e]
      exact RD.val b
theorem putK_cons {j k : κ} {u v : V} {r : List (κ × V)} (nd : (((j, u) :: r).map (·.1)).Nodup) : putK ((j, u) :: r) k v = if j = k then (j, v) :: r else (j, u) :: putK r k v := by
  have hj : ∀ q ∈ r, q.1 ≠ j := fun q hq e => (List.nodup_cons.mp nd).1 (List.mem_map.mpr ⟨q, hq, e⟩)
  unfold putK
  by_cases e : j = k
  · subst e
    have hr : (r.map fun kv => if kv.1 = j then (kv.1, v) else kv) = r := by
      conv => rhs; rw [← List.map_id r]
      exact List.map_congr_left fun q hq => if_neg (hj q hq)
    simp [hr]
  · simp only [List.any_cons, e, decide_false, Bool.false_or, if_false, List.map_cons, List.cons_append]
    split <;> rfl
theorem RD.keys {ρ H} : ∀ {ws : List (κ × W)} {vs : List (κ × V)}, RD T ρ H ws vs → vs.map (·.1) = ws.map (·.1)
  | [], _, h => by have h : _ = [] := h; subst h; rfl
  | (j, x) :: r, _, h => by
    obtain ⟨v, r', rfl, a, b⟩ := h
    simp only [List.map_cons, RD.keys b]
theorem mem_putKW {k : κ} {w : W} {j : κ} : ∀ {ws : List (κ × W)}, j ∈ (putKW k w ws).map (·.1) ↔ j = k ∨ j ∈ ws.map (·.1)
  | [] => by simp [putKW]
  | (i, x) :: r => by
    simp only [putKW]
    split
    · rename_i e
      subst e
      simp
    · simp only [List.map_cons, List.mem_cons, mem_putKW (ws := r)]
      constructor
      · rintro (h | h | h)
        · exact .inr (.inl h)
        · exact .inl h
        · exact .inr (.inr h)
      · rintro (h | h | h)
        · exact .inr (.inl h)
        · exact .inl h
        · exact .inr (.inr h)
theorem nodup_putKW {k : κ} {w : W} : ∀ {ws : List (κ × W)}, (ws.map (·.1)).Nodup → ((putKW k w ws).map (·.1)).Nodup
  | [], _ => by simp [putKW]
  | (i, x) :: r, h => by
    have h' := List.nodup_cons.mp h
    simp only [putKW]
    split
    · exact h
    · rename_i e
      refine List.nodup_cons.mpr ⟨fun hm => ?_, nodup_putKW h'.2⟩
      rcases mem_putKW.mp hm with q | q
      · exact e q
      · exact h'.1 q
theorem RD.put {ρ H} {k : κ} {w : W} {v : V} (q : RW T ρ H w v) : ∀ {ws : List (κ × W)} {vs : List (κ × V)}, RD T ρ H ws vs → (ws.map (·.1)).Nodup → RD T ρ H (putKW k w ws) (putK vs k v)
  | [], _, h, _ => by
    have h : _ = [] := h
    subst h
    exact ⟨v, [], rfl, q, rfl⟩
  | (j, x) :: r, _, h, nd => by
    have hk := RD.keys h
    obtain ⟨u, r', rfl, a, b⟩ := h
    rw [putK_cons (by rw [hk]; exact nd)]
    simp only [putKW]
    by_cases e : j = k
    · rw [if_pos e, if_pos e]
      exact ⟨v, r', rfl, q, b⟩
    · rw [if_neg e, if_neg e]
      exact ⟨u, _, rfl, a, RD.put q b (List.nodup_cons.mp nd).2⟩
end
/-- a class whose instances are told by places: plain, and no class of it has one of the attributes' names -/
structure ClsW (T : Tab) (C : Addr) : Prop where
  cl : Cls T.K C
  na : ∀ n ∈ T.fns, NoAttr T.K C n
def RO (T : Tab) (ρ : List Addr) (H : Hp) : GO → Addr → Prop
  | .lst ws, a => ∃ vs, H a = some (.lst vs) ∧ RWs T ρ H ws vs
  | .dK kvs, a => ∃ vs, H a = some (.dK vs) ∧ RD T ρ H kvs vs ∧ (kvs.map (·.1)).Nodup
  | .dT kvs, a => ∃ vs, H a = some (.dT vs) ∧ RD T ρ H kvs vs ∧ (kvs.map (·.1)).Nodup
  | .ins c fs, a => ∃ C dx vs, T.cls c = some C ∧ ClsW T C ∧ H a = some (.ins C dx vs) ∧ RF T ρ H fs vs
structure RG (T : Tab) (ρ : List Addr) (H : Hp) (g : G) : Prop where
  nd : ρ.Nodup
  len : ρ.length = g.length
  obj : ∀ (l : Nat) (o : GO) (a : Addr), g[l]? = some o → ρ[l]? = some a → RO T ρ H o a
/-- its own description, at the address -/
def Mutb : Option HO → Prop
  | some (.tup _) => False
  | some (.frz _ _) => False
  | some (.xd _) => False
  | some _ => True
  | none => False
theorem RO.mutb {ρ H o a} (h : RO T ρ H o a) : Mutb (H a) := by
  cases o with
  | lst ws => obtain ⟨vs, e, _⟩ := h; rw [e]; trivial
  | dK kvs => obtain ⟨vs, e, _⟩ := h; rw [e]; trivial
  | dT kvs => obtain ⟨vs, e, _⟩ := h; rw [e]; trivial
  | ins c fs => obtain ⟨C, dx, vs, _, _, e, _⟩ := h; rw [e]; trivial
theorem RO.mono {ρ H ρ' H' o a} (gr : Grow ρ H ρ' H') (k : ∀ x, H a = some x → H' a = some x) (h : RO T ρ H o a) : RO T ρ' H' o a := by
  cases o with
  | lst ws => obtain ⟨vs, e, q⟩ := h; exact ⟨vs, k _ e, q.mono gr _ _⟩
  | dK kvs => obtain ⟨vs, e, q, n⟩ := h; exact ⟨vs, k _ e, q.mono gr _ _, n⟩
  | dT kvs => obtain ⟨vs, e, q, n⟩ := h; exact ⟨vs, k _ e, q.mono gr _ _, n⟩
  | ins c fs => obtain ⟨C, dx, vs, c, p, e, q⟩ := h; exact ⟨C, dx, vs, c, p, k _ e, q.mono gr _ _⟩
theorem Mutb.some {x : Option HO} (h : Mutb x) : ∃ o, x = some o := by
  cases x with
  | none => exact h.elim
  | some o => exact ⟨o, rfl⟩
theorem grow_fresh {ρ : List Addr} {H : Hp} {p : Addr} {o : HO} (hp : H p = none) : Grow ρ H ρ (upd H p o) :=
  ⟨fun _ _ h => h, fun a vs h => by rw [upd_ne (ne_of_none h hp)]; exact h, fun a o u h => by rw [upd_ne (ne_of_none h hp)]; exact h, fun a vs h => by rw [upd_ne (ne_of_none h hp)]; exact h⟩
theorem grow_write {ρ : List Addr} {H : Hp} {p : Addr} {o : HO} (hp : Mutb (H p)) : Grow ρ H ρ (upd H p o) := by
  have ne : ∀ a x, H a = some x → ¬ Mutb (some x) → a ≠ p := fun a x e n z => n (by rw [← e, z]; exact hp)
  exact ⟨fun _ _ h => h, fun a vs h => by rw [upd_ne (ne _ _ h fun z => z)]; exact h, fun a o u h => by rw [upd_ne (ne _ _ h fun z => z)]; exact h, fun a vs h => by rw [upd_ne (ne _ _ h fun z => z)]; exact h⟩
theorem RG.at {ρ H g} (R : RG T ρ H g) {l : Nat} {o : GO} (h : g[l]? = some o) : ∃ a, ρ[l]? = some a ∧ RO T ρ H o a := by
  have hl : l < ρ.length := by
    rw [R.len]
    exact (List.getElem?_eq_some_iff.mp h).1
  exact ⟨ρ[l], List.getElem?_eq_getElem hl, R.obj l o _ h (List.getElem?_eq_getElem hl)⟩
theorem RG.there {ρ H g} (R : RG T ρ H g) {l : Nat} {a : Addr} (h : ρ[l]? = some a) : ∃ o, g[l]? = some o ∧ RO T ρ H o a := by
  have hl : l < g.length := by
    rw [← R.len]
    exact (List.getElem?_eq_some_iff.mp h).1
  exact ⟨g[l], List.getElem?_eq_getElem hl, R.obj l _ a (List.getElem?_eq_getElem hl) h⟩
/-- something that no place speaks of is laid -/
theorem RG.extra {ρ H g p} {o : HO} (R : RG T ρ H g) (hp : H p = none) : RG T ρ (upd H p o) g :=
  ⟨R.nd, R.len, fun l u a h1 h2 => (R.obj l u a h1 h2).mono (grow_fresh hp) fun x e => by rw [upd_ne (ne_of_none e hp)]; exact e⟩
/-- a new place -/
theorem RG.new {ρ H g p} {o : HO} {u : GO} (R : RG T ρ H g) (hp : H p = none) (h : RO T (ρ ++ [p]) (upd H p o) u p) : RG T (ρ ++ [p]) (upd H p o) (g ++ [u]) := by
  have np : p ∉ ρ := fun hm => by
    obtain ⟨l, hl⟩ := List.mem_iff_getElem?.mp hm
    obtain ⟨w, _, r⟩ := R.there hl
    obtain ⟨z, e⟩ := r.mutb.some
    rw [hp] at e
    cases e
  have gr : Grow ρ H (ρ ++ [p]) (upd H p o) := ⟨fun l a h => by rw [List.getElem?_append_left (List.getElem?_eq_some_iff.mp h).1]; exact h, (grow_fresh (ρ := ρ) hp).tup, (grow_fresh (ρ := ρ) hp).frz, (grow_fresh (ρ := ρ) hp).xd⟩
  refine ⟨?_, by simp [R.len], fun l w a h1 h2 => ?_⟩
  · rw [List.nodup_append]
    exact ⟨R.nd, by simp, fun a ha b hb e => np (by rw [List.mem_singleton] at hb; rw [← hb, ← e]; exact ha)⟩
  · by_cases hl : l < g.length
    · rw [List.getElem?_append_left hl] at h1
      rw [List.getElem?_append_left (by rw [R.len]; exact hl)] at h2
      exact (R.obj l w a h1 h2).mono gr fun x e => by rw [upd_ne (ne_of_none e hp)]; exact e
    · have h1' := (List.getElem?_eq_some_iff.mp h1).1
      simp at h1'
      have e : l = g.length := by omega
      subst e
      simp at h1
      rw [← R.len] at h2
      simp at h2
      subst h1 h2
      exact h
theorem grow_new {ρ : List Addr} {H : Hp} {p : Addr} {o : HO} (hp : H p = none) : Grow ρ H (ρ ++ [p]) (upd H p o) :=
  ⟨fun l a h => by rw [List.getElem?_append_left (List.getElem?_eq_some_iff.mp h).1]; exact h, (grow_fresh (ρ := ρ) hp).tup, (grow_fresh (ρ := ρ) hp).frz, (grow_fresh (ρ := ρ) hp).xd⟩
/-- a place is written -/
theorem RG.write {ρ H g} {l : Nat} {a : Addr} {o : HO} {u : GO} (R : RG T ρ H g) (hl : ρ[l]? = some a) (h : RO T ρ (upd H a o) u a) : RG T ρ (upd H a o) (g.set l u) := by
  obtain ⟨w, hw, r⟩ := R.there hl
  have gr : Grow ρ H ρ (upd H a o) := grow_write r.mutb
  have hlt := (List.getElem?_eq_some_iff.mp hw).1
  refine ⟨R.nd, by simp [R.len], fun k z b h1 h2 => ?_⟩
  by_cases e : k = l
  · subst e
    rw [List.getElem?_set_self hlt] at h1
    rw [hl] at h2
    cases h1; cases h2
    exact h
  · rw [List.getElem?_set_ne (fun q => e q.symm)] at h1
    have ne : b ≠ a := fun q => by
      subst q
      obtain ⟨k1, k2⟩ := List.getElem?_eq_some_iff.mp h2
      obtain ⟨l1, l2⟩ := List.getElem?_eq_some_iff.mp hl
      exact e ((List.getElem_inj R.nd).mp (k2.trans l2.symm))
    exact (R.obj k z b h1 h2).mono gr fun x q => by rw [upd_ne ne]; exact q
end WL
end
section
set_option maxRecDepth 100000
namespace WL
open PySem PySem.Spec L2
open PyProof.Rows hiding St
set_option autoImplicit true
variable {T : Tab}
def EndR {α β : Type} (rel : List Addr → Hp → α → β → Prop) (T : Tab) (Wx : WX) (σ : St) (ρ : List Addr) (H : Hp) (Q : β → Hp → Prop) : Out α → Prop
  | .ok a g => ∀ ρ' H' b, Grow ρ H ρ' H' → RG T ρ' H' g → rel ρ' H' a b → Q b H'
  | .ex c fs g => ∀ ρ' H' C d vs, Grow ρ H ρ' H' → RG T ρ' H' g → T.cls c = some C → H' d = some (.xd vs) → RF T ρ' H' fs vs → Wx (.ref C) (some d) σ H'
  | .bad => False
abbrev RB : List Addr → Hp → Bool → Bool → Prop := fun _ _ a b => a = b
abbrev RWr (T : Tab) : List Addr → Hp → W → V → Prop := fun ρ H => RW T ρ H
abbrev RWsr (T : Tab) : List Addr → Hp → List W → List V → Prop := fun ρ H => RWs T ρ H
abbrev RSr (T : Tab) : List Addr → Hp → Sg → St → Prop := fun ρ H => RS T ρ H
/-- an expression, a test, arguments -/
def LE (T : Tab) (Wx : WX) (m : ED) : TE := fun σ H Q => ∃ ρ σw g, RS T ρ H σw σ ∧ RG T ρ H g ∧ EndR (RWr T) T Wx σ ρ H Q (m σw g)
def LT (T : Tab) (Wx : WX) (m : TD) : TT := fun σ H Q => ∃ ρ σw g, RS T ρ H σw σ ∧ RG T ρ H g ∧ EndR RB T Wx σ ρ H Q (m σw g)
def LA (T : Tab) (Wx : WX) (m : AD) : TA := fun σ H Q => ∃ ρ σw g, RS T ρ H σw σ ∧ RG T ρ H g ∧ EndR (RWsr T) T Wx σ ρ H Q (m σw g)
theorem EndR.base {α β : Type} {rel : List Addr → Hp → α → β → Prop} {Wx σ ρ H ρ1 H1} {Q : β → Hp → Prop} {r : Out α} (gr : Grow ρ H ρ1 H1) (h : EndR rel T Wx σ ρ H Q r) : EndR rel T Wx σ ρ1 H1 Q r := by
  cases r with
  | ok a g => exact fun ρ' H' b g2 => h ρ' H' b (gr.trans g2)
  | ex c fs g => exact fun ρ' H' C d vs g2 => h ρ' H' C d vs (gr.trans g2)
  | bad => exact h.elim
theorem EndR.bind {α β α' β' : Type} {rel : List Addr → Hp → α → β → Prop} {rel' : List Addr → Hp → α' → β' → Prop} {Wx σ ρ H} {Q : β → Hp → Prop} {Q' : β' → Hp → Prop} {r : Out α'} {k : α' → G → Out α}
    (h : EndR rel T Wx σ ρ H Q (r.bind k)) (hk : ∀ a g ρ' H' b, Grow ρ H ρ' H' → RG T ρ' H' g → rel' ρ' H' a b → EndR rel T Wx σ ρ' H' Q (k a g) → Q' b H') : EndR rel' T Wx σ ρ H Q' r := by
  cases r with
  | ok a g => exact fun ρ' H' b gr R q => hk a g ρ' H' b gr R q (EndR.base (r := k a g) gr h)
  | ex c fs g => exact h
  | bad => exact h.elim
theorem _root_.L2.PE.imp {X : Cx} {e : Expr} {t t' : TE} (h : PE X e t) (k : ∀ σ H Q, t' σ H Q → t σ H Q) : PE X e t' := ⟨fun pins s σ H Q I q => h.run pins s σ H Q I (k σ H Q q)⟩
theorem _root_.L2.PT.imp {X : Cx} {e : Expr} {t t' : TT} (h : PT X e t) (k : ∀ σ H Q, t' σ H Q → t σ H Q) : PT X e t' := ⟨fun pins s σ H Q I q => h.run pins s σ H Q I (k σ H Q q)⟩
theorem _root_.L2.PW.imp {X : Cx} {e : Expr} {t t' : TT} (h : PW X e t) (k : ∀ σ H Q, t' σ H Q → t σ H Q) : PW X e t' := ⟨fun wh pins s σ H Q I q => h.run wh pins s σ H Q I (k σ H Q q)⟩
theorem _root_.L2.PA.imp {X : Cx} {e : List Expr} {t t' : TA} (h : PA X e t) (k : ∀ σ H Q, t' σ H Q → t σ H Q) : PA X e t' := ⟨fun pos pins s σ H Q I q => h.run pos pins s σ H Q I (k σ H Q q)⟩
theorem _root_.L2.PS.imp {X : Cx} {e : Stmt} {t t' : TS} (h : PS X e t) (k : ∀ D σ H, t' D σ H → t D σ H) : PS X e t' := ⟨fun pins s σ H D I q => h.run pins s σ H D I (k D σ H q)⟩
theorem _root_.L2.PSs.imp {X : Cx} {e : List Stmt} {t t' : TS} (h : PSs X e t) (k : ∀ D σ H, t' D σ H → t D σ H) : PSs X e t' := ⟨fun pins s σ H D I q => h.run pins s σ H D I (k D σ H q)⟩
theorem _root_.L2.PG.imp {X : Cx} {e : Expr} {t t' : TG} (h : PG X e t) (k : ∀ v σ H Q, t' v σ H Q → t v σ H Q) : PG X e t' := ⟨fun pins s σ H v u Q I r q => h.run pins s σ H v u Q I r (k v σ H Q q)⟩

def eVar (i : Nat) : ED := fun σ g => match σ[i]? with
  | some (some w) => .ok w g
  | _ => .bad
def eC (w : W) : ED := fun _ g => .ok w g
section
variable {X : Cx} {Wx : WX}
theorem le_of_var {i : Nat} {e : Expr} (h : PE X e (tVar i)) : PE X e (LE T Wx (eVar i)) := h.imp fun σ H Q q => by
  obtain ⟨ρ, σw, g, hs, hg, q⟩ := q
  unfold eVar at q
  split at q
  · rename_i w e
    obtain ⟨v, ev, r⟩ := hs.get e
    exact ⟨v, ev, q ρ H v .refl hg r⟩
  · exact q.elim
theorem le_var (i : Nat) {x : Str} {pos : Pos} (hN : X.N[i]? = some x := by rfl) (hv : Vis X.env.scope x := by first | exact Or.inl rfl | exact Or.inr (Or.inl rfl) | exact Or.inr (Or.inr rfl)) (hd : (x == ("__debug__" : Str)) = false := by decide)
    (hcd : (x == ("__classdict__" : Str)) = false := by decide) : PE X (.Name x pos) (LE T Wx (eVar i)) := le_of_var (pe_var hN hv hd hcd)
theorem le_of_c {w : W} {v : V} {e : Expr} (h : PE X e (tC v)) (r : ∀ ρ H, RW T ρ H w v) : PE X e (LE T Wx (eC w)) := h.imp fun σ H Q q => by
  obtain ⟨ρ, σw, g, hs, hg, q⟩ := q
  exact q ρ H v .refl hg (r ρ H)
theorem le_int {i : Int} {j pos} : PE X (.Constant (.int i) j pos) (LE T Wx (eC (.int i))) := le_of_c pe_int fun _ _ => by simp only [RW]
theorem le_bl {b : Bool} {j pos} : PE X (.Constant (.bool b) j pos) (LE T Wx (eC (.bl b))) := le_of_c pe_bl fun _ _ => by simp only [RW]
theorem le_str {x : Str} {j pos} : PE X (.Constant (.str x) j pos) (LE T Wx (eC (.str x))) := le_of_c pe_str fun _ _ => by simp only [RW]
theorem le_non {j pos} : PE X (.Constant .none j pos) (LE T Wx (eC .non)) := le_of_c pe_non fun _ _ => by simp only [RW]
/-- a module's constant -/
theorem le_glob {x : Str} {w : W} {v : V} {u : Value} {pos : Pos} (hm : X.mg x = some u) (r : RelV v u) (rw' : ∀ ρ H, RW T ρ H w v) (hg : Gl X x := by rfl) (hd : (x == ("__debug__" : Str)) = false := by decide) : PE X (.Name x pos) (LE T Wx (eC w)) :=
  le_of_c (pe_glob hg hm r hd) rw'

abbrev F1 := W → G → Out W
abbrev F2 := W → W → G → Out W
abbrev FN := List W → G → Out W
/-- an operator, a built-in of two values, by what its answer is -/
def OpO (X : Cx) (T : Tab) (Wx : WX) (op : Value → Value → Sem Value) (f : F2) : Prop :=
  ∀ (pins : List (Addr × Obj)) (s : Shared) (σ : St) (H : Hp) (ρ : List Addr) (g : G) (x y : W) (vx vy : V) (v u : Value) (Q : VK), Inv X pins σ H s → RG T ρ H g → RW T ρ H x vx → RW T ρ H y vy → RelV vx v → RelV vy u →
    EndR (RWr T) T Wx σ ρ H Q (f x y g) → wpAny (model X.prog X.w) X.A (op v u) (EP X pins σ Q) X.xe s
def UnO (X : Cx) (T : Tab) (Wx : WX) (op : Value → Sem Value) (f : F1) : Prop :=
  ∀ (pins : List (Addr × Obj)) (s : Shared) (σ : St) (H : Hp) (ρ : List Addr) (g : G) (x : W) (vx : V) (v : Value) (Q : VK), Inv X pins σ H s → RG T ρ H g → RW T ρ H x vx → RelV vx v →
    EndR (RWr T) T Wx σ ρ H Q (f x g) → wpAny (model X.prog X.w) X.A (op v) (EP X pins σ Q) X.xe s
def CallO (X : Cx) (T : Tab) (Wx : WX) (fv : Value) (f : FN) : Prop :=
  ∀ (pins : List (Addr × Obj)) (s : Shared) (σ : St) (H : Hp) (ρ : List Addr) (g : G) (xs : List W) (vs : List V) (us : List Value) (Q : VK), Inv X pins σ H s → RG T ρ H g → RWs T ρ H xs vs → Vals vs us →
    EndR (RWr T) T Wx σ ρ H Q (f xs g) → wpAny (model X.prog X.w) X.A (call fv us) (EP X pins σ Q) X.xe s
def eUn (f : F1) (a : ED) : ED := fun σ g => (a σ g).bind fun x g => f x g
def eBin (f : F2) (a b : ED) : ED := fun σ g => (a σ g).bind fun x g => (b σ g).bind fun y g => f x y g
def aNil : AD := fun _ g => .ok [] g
def aCons (a : ED) (r : AD) : AD := fun σ g => (a σ g).bind fun x g => (r σ g).bind fun xs g => .ok (x :: xs) g
def eFn (f : FN) (a : AD) : ED := fun σ g => (a σ g).bind fun xs g => f xs g
/-- by the first layer's rule -/
theorem OpO.of {op : Value → Value → Sem Value} {r : R2} {f : F2} (h : OpR X op r) (hL : ∀ σ ρ H g x y vx vy (Q : VK), RG T ρ H g → RW T ρ H x vx → RW T ρ H y vy → EndR (RWr T) T Wx σ ρ H Q (f x y g) → r vx vy H Q) : OpO X T Wx op f :=
  fun pins s σ H ρ g x y vx vy v u Q I R rx ry r1 r2 e => h pins s σ H vx vy v u Q I r1 r2 (hL σ ρ H g x y vx vy Q R rx ry e)
theorem UnO.of {op : Value → Sem Value} {r : V → Hp → VK → Prop} {f : F1} (h : UnR X op r) (hL : ∀ σ ρ H g x vx (Q : VK), RG T ρ H g → RW T ρ H x vx → EndR (RWr T) T Wx σ ρ H Q (f x g) → r vx H Q) : UnO X T Wx op f :=
  fun pins s σ H ρ g x vx v Q I R rx r1 e => h pins s σ H vx v Q I r1 (hL σ ρ H g x vx Q R rx e)
theorem CallO.of {fv : Value} {r : List V → Hp → VK → Prop} {f : FN} (h : CallR X fv r) (hL : ∀ σ ρ H g xs vs (Q : VK), RG T ρ H g → RWs T ρ H xs vs → EndR (RWr T) T Wx σ ρ H Q (f xs g) → r vs H Q) : CallO X T Wx fv f :=
  fun pins s σ H ρ g xs vs us Q I R rx r1 e => h pins s σ H vs us Q I r1 (hL σ ρ H g xs vs Q R rx e)
/-- two values in a row -/
theorem lift2 {a b : Expr} {ma mb : ED} {f : F2} {op : Value → Value → Sem Value} (ho : OpO X T Wx op f) (ha : PE X a (LE T Wx ma)) (hb : PE X b (LE T Wx mb)) {pins : List (Addr × Obj)} {s : Shared} {σ : St} {H : Hp} {Q : VK} (I : Inv X pins σ H s)
    (h : LE T Wx (eBin f ma mb) σ H Q) : wpAny (model X.prog X.w) X.A (eval a X.env) (fun v s₁ => wpAny (model X.prog X.w) X.A (eval b X.env) (fun u s₂ => wpAny (model X.prog X.w) X.A (op v u) (EP X pins σ Q) X.xe s₂) X.xe s₁) X.xe s := by
  obtain ⟨ρ, σw, g, hs, hg, he⟩ := h
  refine thn (ha.run pins s σ H _ I ⟨ρ, σw, g, hs, hg, EndR.bind (Q' := fun vx H1 => ∃ ρ1 x g1, RS T ρ1 H1 σw σ ∧ RG T ρ1 H1 g1 ∧ RW T ρ1 H1 x vx ∧ EndR (RWr T) T Wx σ ρ1 H1 Q ((mb σw g1).bind fun y g => f x y g)) he fun x g1 ρ1 H1 vx gr1 R1 rx he1 =>
    ⟨ρ1, x, g1, hs.mono gr1 _ _, R1, rx, he1⟩⟩) fun v s1 ⟨vx, H1, I1, r1, ρ1, x, g1, hs1, R1, rx, he1⟩ => ?_
  refine thn (hb.run pins s1 σ H1 _ I1 ⟨ρ1, σw, g1, hs1, R1, EndR.bind (Q' := fun vy H2 => ∃ ρ2 y g2, RG T ρ2 H2 g2 ∧ RW T ρ2 H2 x vx ∧ RW T ρ2 H2 y vy ∧ EndR (RWr T) T Wx σ ρ2 H2 Q (f x y g2)) he1 fun y g2 ρ2 H2 vy gr2 R2 ry he2 =>
    ⟨ρ2, y, g2, R2, rx.mono gr2 _ _, ry, he2⟩⟩) fun u s2 ⟨vy, H2, I2, r2, ρ2, y, g2, R2, rx2, ry, he2⟩ => ?_
  exact ho pins s2 σ H2 ρ2 g2 x y vx vy v u Q I2 R2 rx2 ry r1 r2 he2
theorem lift1 {a : Expr} {ma : ED} {f : F1} {op : Value → Sem Value} (ho : UnO X T Wx op f) (ha : PE X a (LE T Wx ma)) {pins : List (Addr × Obj)} {s : Shared} {σ : St} {H : Hp} {Q : VK} (I : Inv X pins σ H s)
    (h : LE T Wx (eUn f ma) σ H Q) : wpAny (model X.prog X.w) X.A (eval a X.env) (fun v s₁ => wpAny (model X.prog X.w) X.A (op v) (EP X pins σ Q) X.xe s₁) X.xe s := by
  obtain ⟨ρ, σw, g, hs, hg, he⟩ := h
  refine thn (ha.run pins s σ H _ I ⟨ρ, σw, g, hs, hg, EndR.bind (Q' := fun vx H1 => ∃ ρ1 x g1, RG T ρ1 H1 g1 ∧ RW T ρ1 H1 x vx ∧ EndR (RWr T) T Wx σ ρ1 H1 Q (f x g1)) he fun x g1 ρ1 H1 vx gr1 R1 rx he1 =>
    ⟨ρ1, x, g1, R1, rx, he1⟩⟩) fun v s1 ⟨vx, H1, I1, r1, ρ1, x, g1, R1, rx, he1⟩ => ?_
  exact ho pins s1 σ H1 ρ1 g1 x vx v Q I1 R1 rx r1 he1
theorem liftN {es : List Expr} {pos : Pos} {m : AD} {f : FN} {fv : Value} (ho : CallO X T Wx fv f) (ha : PA X es (LA T Wx m)) {pins : List (Addr × Obj)} {s : Shared} {σ : St} {H : Hp} {Q : VK} (I : Inv X pins σ H s)
    (h : LE T Wx (eFn f m) σ H Q) : wpAny (model X.prog X.w) X.A (spliced (backTo pos (starEach es X.env))) (fun us s₁ => X.K.In s₁.heap ∧ wpAny (model X.prog X.w) X.A (call fv us) (EP X pins σ Q) X.xe s₁) X.xe s := by
  obtain ⟨ρ, σw, g, hs, hg, he⟩ := h
  refine thn (ha.run pos pins s σ H _ I ⟨ρ, σw, g, hs, hg, EndR.bind (Q' := fun vs H1 => ∃ ρ1 xs g1, RG T ρ1 H1 g1 ∧ RWs T ρ1 H1 xs vs ∧ EndR (RWr T) T Wx σ ρ1 H1 Q (f xs g1)) he fun x g1 ρ1 H1 vx gr1 R1 rx he1 =>
    ⟨ρ1, x, g1, R1, rx, he1⟩⟩) fun us s1 ⟨vs, H1, I1, r1, ρ1, xs, g1, R1, rx, he1⟩ => ⟨I1.kIn, ?_⟩
  exact ho pins s1 σ H1 ρ1 g1 xs vs us Q I1 R1 rx r1 he1
variable {a b e : Expr} {es : List Expr} {ma mb mc : ED} {pos p : Pos}
theorem le_op {op : Operator} {f : F2} (ho : OpO X T Wx (binaryOp op) f) (ha : PE X a (LE T Wx ma)) (hb : PE X b (LE T Wx mb)) : PE X (.BinOp a op b pos) (LE T Wx (eBin f ma mb)) :=
  ⟨fun pins s σ H Q I h => wpAny_BinOp (lift2 ho ha hb I h)⟩
theorem le_un {op : UnaryOp} {f : F1} (ho : UnO X T Wx (unaryOp op) f) (ha : PE X a (LE T Wx ma)) : PE X (.UnaryOp op a pos) (LE T Wx (eUn f ma)) :=
  ⟨fun pins s σ H Q I h => UnaryOp_ (lift1 ho ha I h)⟩
theorem le_cmp {op : CmpOp} {f : F2} (ho : OpO X T Wx (compareOp op) f) (ha : PE X a (LE T Wx ma)) (hb : PE X b (LE T Wx mb)) (hm : behindInMarks op b = false := by first | exact nomark _ | rfl) : PE X (.Compare a [op] [b] pos) (LE T Wx (eBin f ma mb)) :=
  ⟨fun pins s σ H Q I h => wpAny_Compare1 (lift2 ho ha hb I h) hm⟩
/-- a[b], by values -/
def IxO (X : Cx) (T : Tab) (Wx : WX) (f : F2) : Prop := ∀ (value slice : Expr), PlainIx slice → (∀ x i, subscripted slice true (.ref x) i = runValue (.builtin "lifetime.subscript" ⟨[.ref x, i], []⟩)) → OpO X T Wx (fun v u => subscriptTail value slice v u) f
theorem le_ix {f : F2} (ho : IxO X T Wx f) (ha : PE X a (LE T Wx ma)) (hb : PE X b (LE T Wx mb)) (hs : PlainIx b := by exact fun _ _ => rfl) (ht : ∀ x i, subscripted b true (.ref x) i = runValue (.builtin "lifetime.subscript" ⟨[.ref x, i], []⟩) := by (intro _ _; with_unfolding_all rfl)) :
    PE X (.Subscript a b pos) (LE T Wx (eBin f ma mb)) := ⟨fun pins s σ H Q I h => Subscript_ (lift2 (ho a b hs ht) ha hb I h)⟩
theorem la_nil : PA X [] (LA T Wx aNil) := pa_nil.imp fun σ H Q q => by
  obtain ⟨ρ, σw, g, hs, hg, he⟩ := q
  exact he ρ H [] .refl hg RWs.nil
theorem la_cons {mr : AD} (ha : PE X e (LE T Wx ma)) (hr : PA X es (LA T Wx mr)) (hs : starEach (e :: es) X.env = (false, eval e X.env) :: starEach es X.env := by rfl) : PA X (e :: es) (LA T Wx (aCons ma mr)) :=
  (pa_cons ha hr hs).imp fun σ H Q h => by
    obtain ⟨ρ, σw, g, hs, hg, he⟩ := h
    refine ⟨ρ, σw, g, hs, hg, EndR.bind he fun x g1 ρ1 H1 vx gr1 R1 rx he1 => ?_⟩
    refine ⟨ρ1, σw, g1, hs.mono gr1 _ _, R1, EndR.bind he1 fun y g2 ρ2 H2 vy gr2 R2 ry he2 => ?_⟩
    exact he2 ρ2 H2 _ .refl R2 (.cons (rx.mono gr2 _ _) ry)
theorem le_callB {x : Str} {id : String} {f : FN} {m : AD} (hc : CallO X T Wx (.builtin id) f) (hm : X.mg x = none) (hv : bootBuiltins x = some (.builtin id)) (ha : PA X (e :: es) (LA T Wx m)) (hg : Gl X x := by rfl)
    (hn : x ≠ "__name__" := by decide) (hdb : (x == ("__debug__" : Str)) = false := by decide) (he : starEach (e :: es) X.env = (false, eval e X.env) :: starEach es X.env := by rfl) (hpl : (backTo pos (starEach es X.env)).any (·.1) = false := by rfl) :
    PE X (.Call (.Name x p) (e :: es) [] pos) (LE T Wx (eFn f m)) := ⟨fun pins s σ H Q I h => wpAny_Call_Name_kw (ld_blt I hg hm hv (PyProof.Rows.callWith_builtin1 (wpAny_mono (liftN hc ha I h) (fun _ _ z => z.2) fun _ _ z => z) he hpl) hn hdb)⟩
theorem le_callTy {x : Str} {id : String} {f : FN} {m : AD} (hc : CallO X T Wx (.type id) f) (hm : X.mg x = none) (hv : bootBuiltins x = some (.type id)) (ha : PA X (e :: es) (LA T Wx m)) (hg : Gl X x := by rfl)
    (hn : x ≠ "__name__" := by decide) (hdb : (x == ("__debug__" : Str)) = false := by decide) (he : starEach (e :: es) X.env = (false, eval e X.env) :: starEach es X.env := by rfl) (hpl : (backTo pos (starEach es X.env)).any (·.1) = false := by rfl) :
    PE X (.Call (.Name x p) (e :: es) [] pos) (LE T Wx (eFn f m)) := ⟨fun pins s σ H Q I h => wpAny_Call_Name_kw (ld_blt I hg hm hv (PyProof.Rows.callWith_type1 (wpAny_mono (liftN hc ha I h) (fun _ _ z => z.2) fun _ _ z => z) he hpl) hn hdb)⟩
def fits (n : Nat) : Bool := decide (n ≤ 1000000)
theorem fits_le {n : Nat} (h : fits n = true) : n ≤ sizeLine := by
  have := of_decide_eq_true h
  rw [sizeLine_eq]
  omega
def eTup (a : AD) : ED := fun σ g => (a σ g).bind fun xs g => if fits xs.length then .ok (.tup xs) g else .bad
def eLst (a : AD) : ED := fun σ g => (a σ g).bind fun xs g => if fits xs.length then .ok (.ref g.length) (g ++ [.lst xs]) else .bad
theorem new_lst {ρ H g p ws vs} (R : RG T ρ H g) (hp : H p = none) (r : RWs T ρ H ws vs) : RG T (ρ ++ [p]) (upd H p (.lst vs)) (g ++ [.lst ws]) := R.new hp ⟨vs, upd_same, r.mono (grow_new hp) _ _⟩
theorem ref_new {ρ : List Addr} {H H' : Hp} {g : G} {p : Addr} (R : RG T ρ H g) : RW T (ρ ++ [p]) H' (.ref g.length) (.ref p) := by
  simp only [RW]
  exact ⟨p, by rw [← R.len]; simp, rfl⟩
theorem tup_new {ρ H p ws vs} (hp : H p = none) (r : RWs T ρ H ws vs) : RW T ρ (upd H p (.tup vs)) (.tup ws) (.ref p) := by
  simp only [RW]
  exact ⟨p, vs, rfl, upd_same, r.mono (grow_fresh hp) _ _⟩
theorem le_tup {m : AD} {x1} (h : PA X es (LA T Wx m)) : PE X (.Tuple es x1 pos) (LE T Wx (eTup m)) := (pe_tup h).imp fun σ H Q h => by
  obtain ⟨ρ, σw, g, hs, hg, he⟩ := h
  refine ⟨ρ, σw, g, hs, hg, EndR.bind he fun xs g1 ρ1 H1 vs gr1 R1 rx he1 => ?_⟩
  split at he1
  · rename_i hf
    refine ⟨by rw [← rx.length]; exact fits_le hf, fun p hp => ?_⟩
    exact he1 ρ1 _ _ (grow_fresh hp) (R1.extra hp) (tup_new hp rx)
  · exact he1.elim
theorem le_lst {m : AD} (h : PA X es (LA T Wx m)) : PE X (.List es pos) (LE T Wx (eLst m)) := (pe_lst h).imp fun σ H Q h => by
  obtain ⟨ρ, σw, g, hs, hg, he⟩ := h
  refine ⟨ρ, σw, g, hs, hg, EndR.bind he fun xs g1 ρ1 H1 vs gr1 R1 rx he1 => ?_⟩
  split at he1
  · rename_i hf
    refine ⟨by rw [← rx.length]; exact fits_le hf, fun p hp => ?_⟩
    exact he1 _ _ _ (grow_new hp) (new_lst R1 hp rx) (ref_new R1)
  · exact he1.elim
def tVal (a : ED) : TD := fun σ g => (a σ g).bind fun x g => match x with
  | .bl b => .ok b g
  | _ => .bad
def tNot (a : TD) : TD := fun σ g => (a σ g).bind fun b g => .ok (!b) g
def tAnd (a b : TD) : TD := fun σ g => (a σ g).bind fun x g => if x then b σ g else .ok false g
def tOr (a b : TD) : TD := fun σ g => (a σ g).bind fun x g => if x then .ok true g else b σ g
def eIf (c : TD) (a b : ED) : ED := fun σ g => (c σ g).bind fun x g => if x then a σ g else b σ g
theorem lift_tVal {ma : ED} {σ H} {Q : Bool → Hp → Prop} (h : LT T Wx (tVal ma) σ H Q) : LE T Wx ma σ H fun x H1 => ∃ k, x = .bl k ∧ Q k H1 := by
  obtain ⟨ρ, σw, g, hs, hg, he⟩ := h
  refine ⟨ρ, σw, g, hs, hg, EndR.bind he fun x g1 ρ1 H1 vx gr1 R1 rx he1 => ?_⟩
  cases x with
  | bl b => simp only [RWr, RW] at rx; exact ⟨b, rx, he1 ρ1 H1 b .refl R1 rfl⟩
  | _ => exact he1.elim
theorem lt_val (h : PE X e (LE T Wx ma)) (he : ∀ whole, isTrue e X.env whole = (do let v ← whole; standAt e.pos; holding [v] (truthy v)) := by intro _; rfl) : PT X e (LT T Wx (tVal ma)) :=
  (pt_val h he).imp fun _ _ _ h => lift_tVal h
theorem lt_cmp {op : CmpOp} {f : F2} (ho : OpO X T Wx (compareOp op) f) (ha : PE X a (LE T Wx ma)) (hb : PE X b (LE T Wx mb)) (hm : behindInMarks op b = false := by first | exact nomark _ | rfl) : PT X (.Compare a [op] [b] pos) (LT T Wx (tVal (eBin f ma mb))) := by
  refine ⟨fun pins s σ H Q I h => ?_⟩
  refine wpAny_isTrue_Compare1 (thn (lift2 ho ha hb I (lift_tVal h)) fun v s1 h1 => thn h1 fun u s2 h2 => thn h2 fun c s3 ⟨x, H1, I1, r1, q1⟩ => ?_) hm
  obtain ⟨d, rfl, q⟩ := q1
  cases r1
  exact wpAny_truthy_bool ⟨H1, I1, q⟩
def truW (g : G) : W → Option Bool
  | .non => some false
  | .bl b => some b
  | .int i => some (i != 0)
  | .str y => if fits y.length then some ((y.length : Int) != 0) else none
  | .tup ws => some (!ws.isEmpty)
  | .ref l => match g[l]? with
    | some (.lst ws) => some (!ws.isEmpty)
    | _ => none
  | _ => none
def tTru (a : ED) : TD := fun σ g => (a σ g).bind fun x g => match truW g x with
  | some b => .ok b g
  | none => .bad
theorem RWs.isEmpty {ρ H ws vs} (r : RWs T ρ H ws vs) : ws.isEmpty = vs.isEmpty := by
  have := r.length
  cases ws <;> cases vs <;> simp_all
theorem tru_of {ρ H g x v k} (R : RG T ρ H g) (r : RW T ρ H x v) (e : truW g x = some k) : TruV T.K v H k := by
  cases x with
  | non => simp only [RW] at r; subst r; cases e; rfl
  | bl b => simp only [RW] at r; subst r; cases e; rfl
  | int i => simp only [RW] at r; subst r; cases e; rfl
  | str y =>
    simp only [RW] at r
    subst r
    simp only [truW] at e
    split at e
    · rename_i hf
      cases e
      exact ⟨fits_le hf, rfl⟩
    · cases e
  | tup ws =>
    simp only [RW] at r
    obtain ⟨a, vs, rfl, ha, rr⟩ := r
    cases e
    exact .inr (.inl ⟨vs, SqT.of ha, by rw [rr.isEmpty]⟩)
  | ref l =>
    simp only [RW] at r
    obtain ⟨a, ha, rfl⟩ := r
    obtain ⟨o, ho, ro⟩ := R.there ha
    simp only [truW, ho] at e
    cases o with
    | lst ws =>
      cases e
      obtain ⟨vs, hv, rr⟩ := ro
      exact .inl ⟨vs, SqL.of hv, by rw [rr.isEmpty]⟩
    | _ => cases e
  | _ => cases e
theorem lt_tru (hK : X.K = T.K) (h : PE X e (LE T Wx ma)) (he : ∀ whole, isTrue e X.env whole = (do let v ← whole; standAt e.pos; holding [v] (truthy v)) := by intro _; rfl) : PT X e (LT T Wx (tTru ma)) :=
  (pt_truth h he).imp fun σ H Q h => by
    obtain ⟨ρ, σw, g, hs, hg, he⟩ := h
    refine ⟨ρ, σw, g, hs, hg, EndR.bind he fun x g1 ρ1 H1 vx gr1 R1 rx he1 => ?_⟩
    cases hx : truW g1 x with
    | none => rw [hx] at he1; exact he1.elim
    | some k =>
      rw [hx] at he1
      exact ⟨k, by rw [hK]; exact tru_of R1 rx hx, he1 ρ1 H1 k .refl R1 rfl⟩
variable {tA tB : TD} {rest : List Expr}
theorem lt_not (h : PT X a (LT T Wx tA)) : PT X (.UnaryOp .Not a pos) (LT T Wx (tNot tA)) := (pt_not h).imp fun σ H Q h => by
  obtain ⟨ρ, σw, g, hs, hg, he⟩ := h
  refine ⟨ρ, σw, g, hs, hg, EndR.bind he fun x g1 ρ1 H1 vx gr1 R1 rx he1 => ?_⟩
  subst rx
  exact he1 ρ1 H1 _ .refl R1 rfl
theorem lw_and1 (h : PT X a (LT T Wx tA)) : PW X (.BoolOp .And [a] pos) (LT T Wx tA) := pw_and1 h
theorem lw_or1 (h : PT X a (LT T Wx tA)) : PW X (.BoolOp .Or [a] pos) (LT T Wx tA) := pw_or1 h
theorem lw_and (ha : PT X a (LT T Wx tA)) (hb : PW X (.BoolOp .And (b :: rest) pos) (LT T Wx tB)) : PW X (.BoolOp .And (a :: b :: rest) pos) (LT T Wx (tAnd tA tB)) := (pw_and ha hb).imp fun σ H Q h => by
  obtain ⟨ρ, σw, g, hs, hg, he⟩ := h
  refine ⟨ρ, σw, g, hs, hg, EndR.bind he fun x g1 ρ1 H1 vx gr1 R1 rx he1 => ?_⟩
  subst rx
  cases x with
  | true => exact ⟨ρ1, σw, g1, hs.mono gr1 _ _, R1, he1⟩
  | false => exact he1 ρ1 H1 _ .refl R1 rfl
theorem lw_or (ha : PT X a (LT T Wx tA)) (hb : PW X (.BoolOp .Or (b :: rest) pos) (LT T Wx tB)) : PW X (.BoolOp .Or (a :: b :: rest) pos) (LT T Wx (tOr tA tB)) := (pw_or ha hb).imp fun σ H Q h => by
  obtain ⟨ρ, σw, g, hs, hg, he⟩ := h
  refine ⟨ρ, σw, g, hs, hg, EndR.bind he fun x g1 ρ1 H1 vx gr1 R1 rx he1 => ?_⟩
  subst rx
  cases x with
  | false => exact ⟨ρ1, σw, g1, hs.mono gr1 _ _, R1, he1⟩
  | true => exact he1 ρ1 H1 _ .refl R1 rfl
theorem lift_if {c : Expr} {t : TD} {σ H Q} (h : LE T Wx (eIf t ma mb) σ H Q) : LT T Wx t σ H fun b H1 => if b = true then LE T Wx ma σ H1 Q else LE T Wx mb σ H1 Q := by
  obtain ⟨ρ, σw, g, hs, hg, he⟩ := h
  refine ⟨ρ, σw, g, hs, hg, EndR.bind he fun x g1 ρ1 H1 vx gr1 R1 rx he1 => ?_⟩
  subst rx
  cases x with
  | true => exact ⟨ρ1, σw, g1, hs.mono gr1 _ _, R1, he1⟩
  | false => exact ⟨ρ1, σw, g1, hs.mono gr1 _ _, R1, he1⟩
theorem le_if {c : Expr} (hc : PT X c (LT T Wx tA)) (ha : PE X a (LE T Wx ma)) (hb : PE X b (LE T Wx mb)) : PE X (.IfExp c a b pos) (LE T Wx (eIf tA ma mb)) := (pe_ifExp hc ha hb).imp fun _ _ _ h => lift_if (c := c) h
/-- and, or as values (True, False) -/
def eAnd (a b : ED) : ED := fun σ g => (a σ g).bind fun x g => match x with
  | .bl true => b σ g
  | .bl false => .ok (.bl false) g
  | _ => .bad
def eOr (a b : ED) : ED := fun σ g => (a σ g).bind fun x g => match x with
  | .bl false => b σ g
  | .bl true => .ok (.bl true) g
  | _ => .bad
def eNot (a : ED) : ED := fun σ g => (a σ g).bind fun x g => match x with
  | .bl b => .ok (.bl (!b)) g
  | _ => .bad
theorem le_one {op} (h : PE X a (LE T Wx ma)) : PE X (.BoolOp op [a] pos) (LE T Wx ma) := pe_one h
theorem le_and (ha : PE X a (LE T Wx ma)) (hb : PE X (.BoolOp .And (b :: rest) pos) (LE T Wx mb)) : PE X (.BoolOp .And (a :: b :: rest) pos) (LE T Wx (eAnd ma mb)) := (pe_and ha hb).imp fun σ H Q h => by
  obtain ⟨ρ, σw, g, hs, hg, he⟩ := h
  refine ⟨ρ, σw, g, hs, hg, EndR.bind he fun x g1 ρ1 H1 vx gr1 R1 rx he1 => ?_⟩
  cases x with
  | bl c =>
    simp only [RWr, RW] at rx
    refine ⟨c, rx, ?_⟩
    cases c with
    | true => exact ⟨ρ1, σw, g1, hs.mono gr1 _ _, R1, he1⟩
    | false => exact he1 ρ1 H1 _ .refl R1 (by simp only [RWr, RW])
  | _ => exact he1.elim
theorem le_or (ha : PE X a (LE T Wx ma)) (hb : PE X (.BoolOp .Or (b :: rest) pos) (LE T Wx mb)) : PE X (.BoolOp .Or (a :: b :: rest) pos) (LE T Wx (eOr ma mb)) := (pe_or ha hb).imp fun σ H Q h => by
  obtain ⟨ρ, σw, g, hs, hg, he⟩ := h
  refine ⟨ρ, σw, g, hs, hg, EndR.bind he fun x g1 ρ1 H1 vx gr1 R1 rx he1 => ?_⟩
  cases x with
  | bl c =>
    simp only [RWr, RW] at rx
    refine ⟨c, rx, ?_⟩
    cases c with
    | false => exact ⟨ρ1, σw, g1, hs.mono gr1 _ _, R1, he1⟩
    | true => exact he1 ρ1 H1 _ .refl R1 (by simp only [RWr, RW])
  | _ => exact he1.elim
theorem le_not (ha : PE X a (LE T Wx ma)) : PE X (.UnaryOp .Not a pos) (LE T Wx (eNot ma)) := (pe_not ha).imp fun σ H Q h => by
  obtain ⟨ρ, σw, g, hs, hg, he⟩ := h
  refine ⟨ρ, σw, g, hs, hg, EndR.bind he fun x g1 ρ1 H1 vx gr1 R1 rx he1 => ?_⟩
  cases x with
  | bl c => simp only [RWr, RW] at rx; exact ⟨c, rx, he1 ρ1 H1 _ .refl R1 (by simp only [RWr, RW])⟩
  | _ => exact he1.elim
end
end WL
end
section
set_option maxRecDepth 100000
namespace WL
open PySem PySem.Spec L2
open PyProof.Rows hiding St
set_option autoImplicit true
variable {T : Tab}
mutual
def W.beq : W → W → Bool
  | .non, .non => true
  | .bl a, .bl b => a == b
  | .int a, .int b => a == b
  | .str a, .str b => decide (a = b)
  | .tup a, .tup b => W.beqs a b
  | .ref a, .ref b => a == b
  | .ty a, .ty b => a == b
  | .opq, .opq => true
  | .scr a, .scr b => a == b
  | _, _ => false
def W.beqs : List W → List W → Bool
  | [], [] => true
  | a :: r, b :: s => W.beq a b && W.beqs r s
  | _, _ => false
end
mutual
theorem W.beq_self : ∀ a : W, W.beq a a = true
  | .non => by simp [W.beq]
  | .bl a => by simp [W.beq]
  | .int a => by simp [W.beq]
  | .str a => by simp [W.beq]
  | .tup a => by simp [W.beq, W.beqs_self a]
  | .ref a => by simp [W.beq]
  | .ty a => by simp [W.beq]
  | .opq => by simp [W.beq]
  | .scr a => by simp [W.beq]
theorem W.beqs_self : ∀ a : List W, W.beqs a a = true
  | [] => by simp [W.beqs]
  | a :: r => by simp [W.beqs, W.beq_self a, W.beqs_self r]
end
mutual
theorem W.eq_of_beq : ∀ (a b : W), W.beq a b = true → a = b
  | .non, b, h => by cases b <;> simp_all [W.beq]
  | .bl a, b, h => by cases b <;> simp_all [W.beq]
  | .int a, b, h => by cases b <;> simp_all [W.beq]
  | .str a, b, h => by cases b <;> simp_all [W.beq]
  | .tup a, b, h => by
    cases b <;> first | (simp [W.beq] at h; done) | skip
    rename_i c
    simp only [W.beq] at h
    rw [W.eq_of_beqs a c h]
  | .ref a, b, h => by cases b <;> simp_all [W.beq]
  | .ty a, b, h => by cases b <;> simp_all [W.beq]
  | .opq, b, h => by cases b <;> simp_all [W.beq]
  | .scr a, b, h => by cases b <;> simp_all [W.beq]
theorem W.eq_of_beqs : ∀ (a b : List W), W.beqs a b = true → a = b
  | [], b, h => by cases b <;> simp_all [W.beqs]
  | a :: r, b, h => by
    cases b with
    | nil => simp [W.beqs] at h
    | cons c s =>
      simp only [W.beqs, Bool.and_eq_true] at h
      rw [W.eq_of_beq a c h.1, W.eq_of_beqs r s h.2]
end
instance : DecidableEq W := fun a b => if h : W.beq a b = true then isTrue (W.eq_of_beq a b h) else isFalse fun e => h (e ▸ W.beq_self a)
instance : DecidableEq GO := fun a b => match a, b with
  | .lst x, .lst y => if h : x = y then isTrue (h ▸ rfl) else isFalse fun e => h (by cases e; rfl)
  | .dK x, .dK y => if h : x = y then isTrue (h ▸ rfl) else isFalse fun e => h (by cases e; rfl)
  | .dT x, .dT y => if h : x = y then isTrue (h ▸ rfl) else isFalse fun e => h (by cases e; rfl)
  | .ins c x, .ins d y => if h : c = d ∧ x = y then isTrue (by obtain ⟨rfl, rfl⟩ := h; rfl) else isFalse fun e => h (by cases e; exact ⟨rfl, rfl⟩)
  | .lst _, .dK _ => isFalse fun e => by cases e
  | .lst _, .dT _ => isFalse fun e => by cases e
  | .lst _, .ins _ _ => isFalse fun e => by cases e
  | .dK _, .lst _ => isFalse fun e => by cases e
  | .dK _, .dT _ => isFalse fun e => by cases e
  | .dK _, .ins _ _ => isFalse fun e => by cases e
  | .dT _, .lst _ => isFalse fun e => by cases e
  | .dT _, .dK _ => isFalse fun e => by cases e
  | .dT _, .ins _ _ => isFalse fun e => by cases e
  | .ins _ _, .lst _ => isFalse fun e => by cases e
  | .ins _ _, .dK _ => isFalse fun e => by cases e
  | .ins _ _, .dT _ => isFalse fun e => by cases e

def EndS (T : Tab) (Wx : WX) (D : Ends) (ρ : List Addr) (H : Hp) : Fl → Prop
  | .nx σw g => ∀ ρ' H' σ, Grow ρ H ρ' H' → RG T ρ' H' g → RS T ρ' H' σw σ → D.nx σ H'
  | .rt w g => ∀ ρ' H' v, Grow ρ H ρ' H' → RG T ρ' H' g → RW T ρ' H' w v → D.rt v H'
  | .bk σw g => ∀ ρ' H' σ, Grow ρ H ρ' H' → RG T ρ' H' g → RS T ρ' H' σw σ → D.bk σ H'
  | .ct σw g => ∀ ρ' H' σ, Grow ρ H ρ' H' → RG T ρ' H' g → RS T ρ' H' σw σ → D.ct σ H'
  | .ex c fs σw g => ∀ ρ' H' σ C d vs, Grow ρ H ρ' H' → RG T ρ' H' g → RS T ρ' H' σw σ → T.cls c = some C → H' d = some (.xd vs) → RF T ρ' H' fs vs → Wx (.ref C) (some d) σ H'
  | .bad => False
def LS (T : Tab) (Wx : WX) (m : SD) : TS := fun D σ H => ∃ ρ σw g, RS T ρ H σw σ ∧ RG T ρ H g ∧ EndS T Wx D ρ H (m σw g)
theorem EndS.base {Wx D ρ H ρ1 H1} {r : Fl} (gr : Grow ρ H ρ1 H1) (h : EndS T Wx D ρ H r) : EndS T Wx D ρ1 H1 r := by
  cases r with
  | nx σ g => exact fun ρ' H' σ g2 => h ρ' H' σ (gr.trans g2)
  | rt w g => exact fun ρ' H' v g2 => h ρ' H' v (gr.trans g2)
  | bk σ g => exact fun ρ' H' σ g2 => h ρ' H' σ (gr.trans g2)
  | ct σ g => exact fun ρ' H' σ g2 => h ρ' H' σ (gr.trans g2)
  | ex c fs σ g => exact fun ρ' H' σ C d vs g2 => h ρ' H' σ C d vs (gr.trans g2)
  | bad => exact h.elim
/-- another end, flow by flow -/
theorem EndS.to {Wx D D' ρ H} {r : Fl} (h : EndS T Wx D ρ H r) (n : ∀ σw g, r = .nx σw g → ∀ ρ' H' σ, Grow ρ H ρ' H' → RG T ρ' H' g → RS T ρ' H' σw σ → D.nx σ H' → D'.nx σ H') (e : D'.rt = D.rt) (b : D'.bk = D.bk) (c : D'.ct = D.ct) : EndS T Wx D' ρ H r := by
  cases r with
  | nx σ g => exact fun ρ' H' σ g2 R r => n _ _ rfl ρ' H' σ g2 R r (h ρ' H' σ g2 R r)
  | rt w g => exact fun ρ' H' v g2 R r => by rw [e]; exact h ρ' H' v g2 R r
  | bk σ g => exact fun ρ' H' σ g2 R r => by rw [b]; exact h ρ' H' σ g2 R r
  | ct σ g => exact fun ρ' H' σ g2 R r => by rw [c]; exact h ρ' H' σ g2 R r
  | ex c fs σ g => exact h
  | bad => exact h.elim
def Out.fl {α : Type} (r : Out α) (σ : Sg) (k : α → G → Fl) : Fl := match r with
  | .ok a g => k a g
  | .ex c fs g => .ex c fs σ g
  | .bad => .bad
theorem EndS.ofR {α β : Type} {rel : List Addr → Hp → α → β → Prop} {Wx D ρ H} {σw : Sg} {σ : St} {Q' : β → Hp → Prop} {r : Out α} {k : α → G → Fl} (hs : RS T ρ H σw σ)
    (h : EndS T Wx D ρ H (r.fl σw k)) (hk : ∀ a g ρ' H' b, Grow ρ H ρ' H' → RG T ρ' H' g → rel ρ' H' a b → EndS T Wx D ρ' H' (k a g) → Q' b H') : EndR rel T Wx σ ρ H Q' r := by
  cases r with
  | ok a g => exact fun ρ' H' b gr R q => hk a g ρ' H' b gr R q (EndS.base (r := k a g) gr h)
  | ex c fs g => exact fun ρ' H' C d vs gr R hc hd hf => h ρ' H' σ C d vs gr R (hs.mono gr _ _) hc hd hf
  | bad => exact h.elim
def sNext : SD := fun σ g => .nx σ g
def sSeq (a b : SD) : SD := fun σ g => match a σ g with
  | .nx σ g => b σ g
  | r => r
def sDrop (a : ED) : SD := fun σ g => (a σ g).fl σ fun _ g => .nx σ g
def sRet (a : ED) : SD := fun σ g => (a σ g).fl σ fun w g => .rt w g
def sRetN : SD := fun _ g => .rt .non g
def sIf (c : TD) (a b : SD) : SD := fun σ g => (c σ g).fl σ fun x g => if x then a σ g else b σ g
def sBreak : SD := fun σ g => .bk σ g
def sCont : SD := fun σ g => .ct σ g
def sBad : SD := fun _ _ => .bad
section
variable {X : Cx} {Wx : WX} {st : Stmt} {rest : List Stmt} {a b : SD} {e : Expr} {ma : ED} {pos : Pos}
theorem lss_nil : PSs X [] (LS T Wx sNext) := pss_nil.imp fun D σ H h => by
  obtain ⟨ρ, σw, g, hs, hg, he⟩ := h
  exact he ρ H σ .refl hg hs
theorem lift_seq {D σ H} (h : LS T Wx (sSeq a b) D σ H) : tSeq (LS T Wx a) (LS T Wx b) D σ H := by
  obtain ⟨ρ, σw, g, hs, hg, he⟩ := h
  refine ⟨ρ, σw, g, hs, hg, ?_⟩
  unfold sSeq at he
  split at he
  · rename_i σ1 g1 e
    rw [e]
    exact fun ρ' H' σ' gr R r => ⟨ρ', σ1, g1, r, R, EndS.base gr he⟩
  · rename_i r hn
    exact he.to (fun σw g e => absurd e (hn σw g)) rfl rfl rfl
theorem lss_cons (h1 : PS X st (LS T Wx a)) (h2 : PSs X rest (LS T Wx b)) : PSs X (st :: rest) (LS T Wx (sSeq a b)) := (pss_cons h1 h2).imp fun _ _ _ h => lift_seq h
theorem lss_one (h1 : PS X st (LS T Wx a)) : PSs X [st] (LS T Wx a) := pss_one h1
theorem ls_pass : PS X (.Pass pos) (LS T Wx sNext) := ps_pass.imp fun D σ H h => by
  obtain ⟨ρ, σw, g, hs, hg, he⟩ := h
  exact he ρ H σ .refl hg hs
theorem ls_doc {x j pos'} : PS X (.Expr (.Constant (.str x) j pos) pos') (LS T Wx sNext) := ps_doc.imp fun D σ H h => by
  obtain ⟨ρ, σw, g, hs, hg, he⟩ := h
  exact he ρ H σ .refl hg hs
theorem ls_break : PS X (.Break pos) (LS T Wx sBreak) := ps_break.imp fun D σ H h => by
  obtain ⟨ρ, σw, g, hs, hg, he⟩ := h
  exact he ρ H σ .refl hg hs
theorem ls_cont : PS X (.Continue pos) (LS T Wx sCont) := ps_continue.imp fun D σ H h => by
  obtain ⟨ρ, σw, g, hs, hg, he⟩ := h
  exact he ρ H σ .refl hg hs
theorem ls_bad : PS X st (LS T Wx sBad) := ps_never.imp fun D σ H h => by
  obtain ⟨ρ, σw, g, hs, hg, he⟩ := h
  exact he.elim
theorem ls_expr (h : PE X e (LE T Wx ma)) (hs : swapsWith e none pos.line X.env = pure false := by rfl) : PS X (.Expr e pos) (LS T Wx (sDrop ma)) := (ps_expr h hs).imp fun D σ H h => by
  obtain ⟨ρ, σw, g, hs, hg, he⟩ := h
  exact ⟨ρ, σw, g, hs, hg, EndS.ofR hs he fun x g1 ρ1 H1 vx gr R rx he1 => he1 ρ1 H1 σ .refl R (hs.mono gr _ _)⟩
theorem ls_ret (h : PE X e (LE T Wx ma)) : PS X (.Return (some e) pos) (LS T Wx (sRet ma)) := (ps_ret h).imp fun D σ H h => by
  obtain ⟨ρ, σw, g, hs, hg, he⟩ := h
  exact ⟨ρ, σw, g, hs, hg, EndS.ofR hs he fun x g1 ρ1 H1 vx gr R rx he1 => he1 ρ1 H1 vx .refl R rx⟩
theorem ls_retN : PS X (.Return none pos) (LS T Wx sRetN) := ps_retN.imp fun D σ H h => by
  obtain ⟨ρ, σw, g, hs, hg, he⟩ := h
  exact he ρ H .non .refl hg (by simp only [RW])
theorem lift_ifS {c : TD} {D σ H} (h : LS T Wx (sIf c a b) D σ H) : tIfS (LT T Wx c) (LS T Wx a) (LS T Wx b) D σ H := by
  obtain ⟨ρ, σw, g, hs, hg, he⟩ := h
  refine ⟨ρ, σw, g, hs, hg, EndS.ofR hs he fun x g1 ρ1 H1 vx gr R rx he1 => ?_⟩
  subst rx
  cases x with
  | true => exact ⟨ρ1, σw, g1, hs.mono gr _ _, R, he1⟩
  | false => exact ⟨ρ1, σw, g1, hs.mono gr _ _, R, he1⟩
theorem ls_if {c : Expr} {x y : List Stmt} {tc : TD} (hc : PT X c (LT T Wx tc)) (ha : PSs X x (LS T Wx a)) (hb : PSs X y (LS T Wx b)) : PS X (.If c x y pos) (LS T Wx (sIf tc a b)) := (ps_if hc ha hb).imp fun _ _ _ h => lift_ifS h

abbrev GD := W → Sg → G → Out Sg
abbrev GDs := List W → Sg → G → Out Sg
def LG (T : Tab) (Wx : WX) (m : GD) : TG := fun v σ H Q => ∃ ρ w σw g, RW T ρ H w v ∧ RS T ρ H σw σ ∧ RG T ρ H g ∧ EndR (RSr T) T Wx σ ρ H Q (m w σw g)
def LGs (T : Tab) (Wx : WX) (m : GDs) : TGs := fun vs σ H Q => ∃ ρ ws σw g, RWs T ρ H ws vs ∧ RS T ρ H σw σ ∧ RG T ρ H g ∧ EndR (RSr T) T Wx σ ρ H Q (m ws σw g)
def gNm (i : Nat) : GD := fun w σ g => .ok (σ.set i (some w)) g
def gsNil : GDs := fun ws σ g => match ws with
  | [] => .ok σ g
  | _ => .bad
def gsCons (a : GD) (r : GDs) : GDs := fun ws σ g => match ws with
  | [] => .bad
  | w :: ws => match a w σ g with
    | .ok σ g => match r ws σ g with
      | .ok σ g => .ok σ g
      | _ => .bad
    | _ => .bad
def gTupW (n : Nat) (t : GDs) : GD := fun w σ g => match w with
  | .tup ws => if ws.length = n then t ws σ g else .bad
  | _ => .bad
theorem lg_name [NoEx T] {i : Nat} {x : Str} (hN : X.N.Nodup) (hi : X.N[i]? = some x := by rfl) (hx : Loc X.env.scope x := by first | exact Or.inl rfl | exact Or.inr rfl) (hf : X.fn x = true ∨ X.env.scope.names.lookup x = some .local := by first | exact .inl rfl | exact .inr rfl | assumption) :
    PG X (.Name x pos) (LG T Wx (gNm i)) := (pg_name hN hi hx hf).imp fun v σ H Q h => by
  obtain ⟨ρ, w, σw, g, hw, hs, hg, he⟩ := h
  exact he ρ H _ .refl hg (hs.set hw i)
theorem lgs_nil : PGs X [] (LGs T Wx gsNil) := ⟨fun pins s σ H vs us Q I r h => pgs_nil.run pins s σ H vs us Q I r (by
  obtain ⟨ρ, ws, σw, g, hw, hs, hg, he⟩ := h
  cases ws with
  | nil => simp only [RWs] at hw; subst hw; exact ⟨rfl, he ρ H σ .refl hg hs⟩
  | cons _ _ => exact he.elim)⟩
theorem lgs_cons {es : List Expr} {m : GD} {ms : GDs} (h1 : PG X e (LG T Wx m)) (h2 : PGs X es (LGs T Wx ms))
    (hs : (assignEach (e :: es) X.env).map (·.2) = assign e X.env :: (assignEach es X.env).map (·.2) := by rfl) : PGs X (e :: es) (LGs T Wx (gsCons m ms)) := ⟨fun pins s σ H vs us Q I r h => (pgs_cons h1 h2 hs).run pins s σ H vs us Q I r (by
  obtain ⟨ρ, ws, σw, g, hw, hs, hg, he⟩ := h
  cases ws with
  | nil => exact he.elim
  | cons w ws =>
    simp only [RWs] at hw
    obtain ⟨v, vr, rfl, hw1, hw2⟩ := hw
    refine ⟨v, vr, rfl, ρ, w, σw, g, hw1, hs, hg, ?_⟩
    simp only [gsCons] at he
    cases h1 : m w σw g with
    | ok σ1 g1 =>
      rw [h1] at he
      intro ρ1 H1 σ' gr R rs
      refine ⟨ρ1, ws, σ1, g1, hw2.mono gr _ _, rs, R, ?_⟩
      dsimp only at he
      cases h2 : ms ws σ1 g1 with
      | ok σ2 g2 => rw [h2] at he; exact EndR.base (r := Out.ok σ2 g2) gr he
      | ex _ _ _ => rw [h2] at he; exact he.elim
      | bad => rw [h2] at he; exact he.elim
    | ex _ _ _ => rw [h1] at he; exact he.elim
    | bad => rw [h1] at he; exact he.elim)⟩
theorem lg_tup {es : List Expr} {k : Nat} {ms : GDs} {n : Nat} (hK : X.K = T.K) (hc : X.calm = true) (h : PGs X es (LGs T Wx ms))
    (hn : (assignEach es X.env).length = n := by rfl) (hst : (assignEach es X.env).findIdx? (·.1) = none := by rfl) : PG X (.Tuple es k pos) (LG T Wx (gTupW n ms)) := (pg_tup hc h hn hst).imp fun v σ H Q h => by
  obtain ⟨ρ, w, σw, g, hw, hs, hg, he⟩ := h
  cases w with
  | tup ws =>
    simp only [RW] at hw
    obtain ⟨a, vs, rfl, ha, hr⟩ := hw
    simp only [gTupW] at he
    split at he
    · rename_i hl
      exact ⟨a, vs, rfl, SqT.of ha, by rw [← hr.length]; exact hl, ρ, ws, σw, g, hr, hs, hg, he⟩
    · exact he.elim
  | _ => exact he.elim
def sAsg (a : ED) (t : GD) : SD := fun σ g => (a σ g).fl σ fun w g => (t w σ g).fl σ fun σ g => .nx σ g
theorem lift_asg {t : GD} {D σ H} (h : LS T Wx (sAsg ma t) D σ H) : tAsg (LE T Wx ma) (LG T Wx t) D σ H := by
  obtain ⟨ρ, σw, g, hs, hg, he⟩ := h
  refine ⟨ρ, σw, g, hs, hg, EndS.ofR hs he fun x g1 ρ1 H1 vx gr R rx he1 => ?_⟩
  refine ⟨ρ1, x, σw, g1, rx, hs.mono gr _ _, R, EndS.ofR (hs.mono gr _ _) he1 fun σ2 g2 ρ2 H2 σ' gr2 R2 rs he2 => ?_⟩
  exact he2 ρ2 H2 σ' .refl R2 rs
theorem ls_asg {tg : Expr} {t : GD} (he : PE X e (LE T Wx ma)) (hg : PG X tg (LG T Wx t)) (hs : swapsWithSole [tg] e pos.line X.env = pure false := by rfl) (hw : swappedStores [tg] e X.env = pure none := by rfl)
    (h1 : (assignEach [tg] X.env).map (·.2) = [assign tg X.env] := by rfl) : PS X (.Assign [tg] e pos) (LS T Wx (sAsg ma t)) := (ps_asg he hg hs hw h1).imp fun _ _ _ h => lift_asg h
theorem ls_set [NoEx T] (i : Nat) {x : Str} {pos' : Pos} (hN : X.N.Nodup) (he : PE X e (LE T Wx ma)) (hs : swapsWith e (some (.Name x pos')) pos.line X.env = pure false := by rfl) (hi : X.N[i]? = some x := by rfl) (hx : Loc X.env.scope x := by first | exact Or.inl rfl | exact Or.inr rfl)
    (hf : X.fn x = true ∨ X.env.scope.names.lookup x = some .local := by first | exact .inl rfl | exact .inr rfl | assumption) :
    PS X (.Assign [.Name x pos'] e pos) (LS T Wx (sAsg ma (gNm i))) := (ps_set hN hi hx he hs hf).imp fun D σ H h => by
  obtain ⟨ρ, σw, g, hs, hg, he⟩ := h
  refine ⟨ρ, σw, g, hs, hg, EndS.ofR hs he fun x g1 ρ1 H1 vx gr R rx he1 => ?_⟩
  exact he1 ρ1 H1 _ .refl R ((hs.mono gr _ _).set rx i)
/-- a, b = x, y: both values, then both names (no tuple is seen) -/
def sPar (i j : Nat) (a : AD) : SD := fun σ g => (a σ g).fl σ fun ws g => match ws with
  | [v, w] => .nx ((σ.set i (some v)).set j (some w)) g
  | _ => .bad
theorem ls_par [NoEx T] (i j : Nat) {x y : Str} {a b : Expr} {m : AD} {px py pt : Pos} {kt k2 pt2} (hc : X.calm = true) (hN : X.N.Nodup) (ha : PA X [a, b] (LA T Wx m)) (hi : X.N[i]? = some x := by rfl) (hj : X.N[j]? = some y := by rfl) (hij : i ≠ j := by decide)
    (hx : X.env.scope.names.lookup x = some .local := by rfl) (hy : X.env.scope.names.lookup y = some .local := by rfl)
    (hw : swappedStores [.Tuple [.Name x px, .Name y py] kt pt] (.Tuple [a, b] k2 pt2) X.env = pure (some [x, y]) := by rfl)
    (hs : swapsWithSole [.Tuple [.Name x px, .Name y py] kt pt] (.Tuple [a, b] k2 pt2) pos.line X.env = pure false := by rfl) :
    PS X (.Assign [.Tuple [.Name x px, .Name y py] kt pt] (.Tuple [a, b] k2 pt2) pos) (LS T Wx (sPar i j m)) := (ps_par hc hN hi hj hij hx hy ha hw hs).imp fun D σ H h => by
  obtain ⟨ρ, σw, g, hs, hg, he⟩ := h
  refine ⟨ρ, σw, g, hs, hg, EndS.ofR hs he fun x g1 ρ1 H1 vx gr R rx he1 => ?_⟩
  match x, rx, he1 with
  | [v, w], rx, he1 =>
    simp only [RWsr, RWs] at rx
    obtain ⟨v1, _, rfl, r1, w1, _, rfl, r2, rfl⟩ := rx
    exact ⟨v1, w1, rfl, he1 ρ1 H1 _ .refl R (((hs.mono gr _ _).set r1 i).set r2 j)⟩
  | [], _, he1 => exact he1.elim
  | [_], _, he1 => exact he1.elim
  | _ :: _ :: _ :: _, _, he1 => exact he1.elim

def whileGo (c : TD) (body : SD) : Nat → SD
  | 0 => fun _ _ => .bad
  | n + 1 => fun σ g => (c σ g).fl σ fun b g => if b then (match body σ g with
      | .nx σ g => whileGo c body n σ g
      | .ct σ g => whileGo c body n σ g
      | .bk σ g => .nx σ g
      | r => r) else .nx σ g
def fuelW : Nat := 100000
def sWhile (c : TD) (body : SD) : SD := fun σ g => whileGo c body fuelW σ g
theorem lift_while {c : TD} {body : SD} {D σ H} (h : LS T Wx (sWhile c body) D σ H) : tWhile (LT T Wx c) (LS T Wx body) D σ H := by
  obtain ⟨ρ, σw, g, hs, hg, he⟩ := h
  refine ⟨fun m σ H => ∃ ρ σw g, RS T ρ H σw σ ∧ RG T ρ H g ∧ EndS T Wx D ρ H (whileGo c body m σw g), ⟨fuelW, ρ, σw, g, hs, hg, he⟩, ?_⟩
  rintro m σ H ⟨ρ, σw, g, hs, hg, he⟩
  cases m with
  | zero => exact he.elim
  | succ n =>
    refine ⟨ρ, σw, g, hs, hg, EndS.ofR hs he fun x g1 ρ1 H1 vx gr R rx he1 => ?_⟩
    subst rx
    cases x with
    | false => exact he1 ρ1 H1 σ .refl R (hs.mono gr _ _)
    | true =>
      refine ⟨fun σ H => ∃ ρ σw g, RS T ρ H σw σ ∧ RG T ρ H g ∧ EndS T Wx D ρ H (whileGo c body n σw g), fun σ' H' h => ⟨n, Nat.lt_succ_self n, h⟩, ρ1, σw, g1, hs.mono gr _ _, R, ?_⟩
      simp only [if_true] at he1
      cases hb : body σw g1 with
      | nx σ2 g2 => rw [hb] at he1; exact fun ρ' H' σ' gr' R' r' => ⟨ρ', σ2, g2, r', R', EndS.base gr' he1⟩
      | ct σ2 g2 => rw [hb] at he1; exact fun ρ' H' σ' gr' R' r' => ⟨ρ', σ2, g2, r', R', EndS.base gr' he1⟩
      | bk σ2 g2 => rw [hb] at he1; exact he1
      | rt w g2 => rw [hb] at he1; exact he1
      | ex c fs σ2 g2 => rw [hb] at he1; exact he1
      | bad => rw [hb] at he1; exact he1.elim
theorem ls_while {c : Expr} {x : List Stmt} {tc : TD} {body : SD} (hp : PassesOwn (model X.prog X.w) X.A X.env X.xe) (hc : PT X c (LT T Wx tc)) (hb : PSs X x (LS T Wx body)) : PS X (.While c x [] pos) (LS T Wx (sWhile tc body)) :=
  (ps_while hp hc hb).imp fun _ _ _ h => lift_while h

/-- the items; the place of the list that must stand as it is -/
structure Items where
  ws : List W
  at_ : Option Nat
def still (J : Items) (g : G) : Bool := match J.at_ with
  | none => true
  | some l => decide (g[l]? = some (.lst J.ws))
structure ItRel (T : Tab) (ρ0 : List Addr) (H0 : Hp) (L : Items) (J : It) : Prop where
  stop : ∀ ρ H g i, Grow ρ0 H0 ρ H → RG T ρ H g → still L g = true → L.ws.length ≤ i → J.stop i H
  go : ∀ ρ H g i w, Grow ρ0 H0 ρ H → RG T ρ H g → still L g = true → L.ws[i]? = some w → J.go i H
  yld : ∀ ρ H g i w x H', Grow ρ0 H0 ρ H → RG T ρ H g → still L g = true → L.ws[i]? = some w → J.yld i H x H' → ∃ ρ', Grow ρ H ρ' H' ∧ RG T ρ' H' g ∧ RW T ρ' H' w x
abbrev ID := Sg → G → Out Items
def LI (T : Tab) (Wx : WX) (m : ID) : TI := fun σ H R => ∃ ρ σw g, RS T ρ H σw σ ∧ RG T ρ H g ∧ EndR (fun ρ H (a : Items) (b : It) => ItRel T ρ H a b) T Wx σ ρ H R (m σw g)
theorem _root_.L2.PI.imp {X : Cx} {tg e : Expr} {t t' : TI} (h : PI X tg e t) (k : ∀ σ H Q, t' σ H Q → t σ H Q) : PI X tg e t' := ⟨fun pins s σ H Q I q => h.run pins s σ H Q I (k σ H Q q)⟩
def itemsOf (g : G) : W → Option Items
  | .tup ws => some ⟨ws, none⟩
  | .ref l => match g[l]? with
    | some (.lst ws) => some ⟨ws, some l⟩
    | _ => none
  | _ => none
def iSeq (a : ED) : ID := fun σ g => (a σ g).bind fun w g => match itemsOf g w with
  | some L => .ok L g
  | none => .bad
theorem itRel_list {ρ0 H0 l a ws} (h : ρ0[l]? = some a) : ItRel T ρ0 H0 ⟨ws, some l⟩ (Itl T.K a) := by
  have get : ∀ {ρ H g}, Grow ρ0 H0 ρ H → RG T ρ H g → still ⟨ws, some l⟩ g = true → ∃ vs, H a = some (.lst vs) ∧ RWs T ρ H ws vs := fun {ρ H g} gr R s => by
    have s := of_decide_eq_true s
    exact R.obj l _ a s (gr.pre _ _ h)
  refine ⟨fun ρ H g i gr R s hi => ?_, fun ρ H g i w gr R s hi => ?_, fun ρ H g i w x H' gr R s hi y => ?_⟩
  · obtain ⟨vs, hv, r⟩ := get gr R s
    exact ⟨vs, SqL.of hv, by rw [← r.length]; exact hi⟩
  · obtain ⟨vs, hv, r⟩ := get gr R s
    obtain ⟨v, e, q⟩ := r.get hi
    exact ⟨vs, v, SqL.of hv, e⟩
  · obtain ⟨vs, hv, r⟩ := get gr R s
    obtain ⟨v, e, q⟩ := r.get hi
    obtain ⟨rfl, y⟩ := y
    have y := y vs (SqL.of hv)
    rw [e] at y
    cases y
    exact ⟨ρ, .refl, R, q⟩
theorem itRel_tup {ρ0 H0 a ws vs} (h : H0 a = some (.tup vs)) (r : RWs T ρ0 H0 ws vs) : ItRel T ρ0 H0 ⟨ws, none⟩ (Itt T.K a) := by
  refine ⟨fun ρ H g i gr R s hi => ?_, fun ρ H g i w gr R s hi => ?_, fun ρ H g i w x H' gr R s hi y => ?_⟩
  · exact ⟨vs, SqT.of (gr.tup _ _ h), by rw [← r.length]; exact hi⟩
  · obtain ⟨v, e, q⟩ := r.get hi
    exact ⟨vs, v, SqT.of (gr.tup _ _ h), e⟩
  · obtain ⟨v, e, q⟩ := r.get hi
    obtain ⟨rfl, y⟩ := y
    have y := y vs (SqT.of (gr.tup _ _ h))
    rw [e] at y
    cases y
    exact ⟨ρ, .refl, R, q.mono gr _ _⟩
theorem itRel_range {ρ0 H0 lo n} : ItRel T ρ0 H0 ⟨(List.range n).map fun (i : Nat) => W.int (lo + i), none⟩ (Itr lo n) := by
  refine ⟨fun ρ H g i gr R s hi => ?_, fun ρ H g i w gr R s hi => ?_, fun ρ H g i w x H' gr R s hi y => ?_⟩
  · simp at hi
    exact hi
  · have := (List.getElem?_eq_some_iff.mp hi).1
    simp at this
    exact this
  · obtain ⟨rfl, rfl⟩ := y
    obtain ⟨h1, h2⟩ := List.getElem?_eq_some_iff.mp hi
    simp at h2
    subst h2
    exact ⟨ρ, .refl, R, by simp only [RW]⟩
theorem PI.or {tg e : Expr} {t t' : TI} (h : PI X tg e t) (h' : PI X tg e t') : PI X tg e (fun σ H R => t σ H R ∨ t' σ H R) := ⟨fun pins s σ H Q I q => q.elim (h.run pins s σ H Q I) (h'.run pins s σ H Q I)⟩
/-- a list or a tuple: what the value is decides -/
def tiSeq (K : PySem.W.Frag) (tl : TE) : TI := fun σ H R => tl σ H fun x H1 => ∃ a, x = .ref a ∧ (((∃ xs, SqL K H1 a xs) ∧ R (Itl K a) H1) ∨ ((∃ xs, SqT K H1 a xs) ∧ R (Itt K a) H1))
theorem pi_seq {tg l : Expr} {tl : TE} (hl : PE X l tl) : PI X tg l (tiSeq X.K tl) := by
  refine ⟨fun pins s σ H R I h => ?_⟩
  refine thn (hl.run pins s σ H _ I h) fun v s1 ⟨x, H1, I1, r1, q1⟩ => ?_
  obtain ⟨a, e, q⟩ := q1
  subst e
  cases r1
  rcases q with ⟨⟨xs, hq⟩, q⟩ | ⟨⟨xs, hq⟩, q⟩
  · obtain ⟨its, rv, p, hz⟩ := I1.list hq
    refine wpAny_pyIter_list p.isList ?_
    refine ⟨s1.heap.objs.size, [s1.heap.objs.size], _, _, H1, rfl, I1.kept (t' := s1.toks) fun b o e => Heap.get?_push_of_some _ e, turn_list a _, ⟨_, Heap.get?_push_size _ rfl, rfl, rfl⟩, fun b hb => ?_, q⟩
    have e : b = s1.heap.objs.size := by simpa using hb
    subst e
    exact I1.fpOk (Nat.le_refl _) (I1.hok.fresh (Nat.le_refl _))
  · obtain ⟨its, rv, p, hz⟩ := I1.tuple hq
    refine wpAny_pyIter_tuple (show s1.heap.IsTuple a its.toArray from p) ?_
    refine ⟨s1.heap.objs.size, [s1.heap.objs.size], _, _, H1, rfl, I1.kept (t' := s1.toks) fun b o e => Heap.get?_push_of_some _ e, turn_tuple a _, ⟨_, Heap.get?_push_size _ rfl, rfl, rfl⟩, fun b hb => ?_, q⟩
    have e : b = s1.heap.objs.size := by simpa using hb
    subst e
    exact I1.fpOk (Nat.le_refl _) (I1.hok.fresh (Nat.le_refl _))
theorem li_seq {tg : Expr} (hK : X.K = T.K) (h : PE X e (LE T Wx ma)) : PI X tg e (LI T Wx (iSeq ma)) := (pi_seq h).imp fun σ H R h => by
  obtain ⟨ρ, σw, g, hs, hg, he⟩ := h
  refine ⟨ρ, σw, g, hs, hg, EndR.bind he fun x g1 ρ1 H1 vx gr1 R1 rx he1 => ?_⟩
  rw [hK]
  cases x with
  | tup ws =>
    simp only [RWr, RW] at rx
    obtain ⟨a, vs, rfl, ha, hr⟩ := rx
    exact ⟨a, rfl, .inr ⟨⟨vs, SqT.of ha⟩, he1 ρ1 H1 _ .refl R1 (itRel_tup ha hr)⟩⟩
  | ref l =>
    simp only [RWr, RW] at rx
    obtain ⟨a, ha, rfl⟩ := rx
    obtain ⟨o, ho, ro⟩ := R1.there ha
    simp only [itemsOf, ho] at he1
    cases o with
    | lst ws =>
      obtain ⟨vs, hv, hr⟩ := ro
      exact ⟨a, rfl, .inl ⟨⟨vs, SqL.of hv⟩, he1 ρ1 H1 _ .refl R1 (itRel_list ha)⟩⟩
    | _ => exact he1.elim
  | _ => exact he1.elim
def rangeI (lo hi : Int) : Items := ⟨(List.range (hi - lo).toNat).map fun (i : Nat) => W.int (lo + i), none⟩
def small62 (i : Int) : Bool := decide (-(2 ^ 62) ≤ i ∧ i < 2 ^ 62)
def iRange1 (a : AD) : ID := fun σ g => (a σ g).bind fun ws g => match ws with
  | [.int n] => if small62 n then .ok (rangeI 0 n) g else .bad
  | _ => .bad
def iRange2 (a : AD) : ID := fun σ g => (a σ g).bind fun ws g => match ws with
  | [.int m, .int n] => if small62 m && small62 n then .ok (rangeI m n) g else .bad
  | _ => .bad
theorem li_range1 {tg a : Expr} {m : AD} {p : Pos} (hm : X.mg "range" = none) (ha : PA X [a] (LA T Wx m)) (hg : Gl X "range" := by rfl) (hs : starEach [a] X.env = [(false, eval a X.env)] := by rfl) : PI X tg (.Call (.Name "range" p) [a] [] pos) (LI T Wx (iRange1 m)) :=
  (pi_range1 hg hm ha hs).imp fun σ H R h => by
    obtain ⟨ρ, σw, g, hs, hg, he⟩ := h
    refine ⟨ρ, σw, g, hs, hg, EndR.bind he fun x g1 ρ1 H1 vx gr1 R1 rx he1 => ?_⟩
    match x, rx, he1 with
    | [.int n], rx, he1 =>
      simp only [RWsr, RWs, RW] at rx
      obtain ⟨v1, _, rfl, rfl, rfl⟩ := rx
      dsimp only at he1
      split at he1
      · rename_i hn
        have hn := of_decide_eq_true hn
        have q := he1 ρ1 H1 (Itr 0 (n - 0).toNat) .refl R1 itRel_range
        rw [Int.sub_zero] at q
        exact ⟨n, rfl, hn.1, hn.2, q⟩
      · exact he1.elim
    | [], _, he1 => exact he1.elim
    | [.non], _, he1 | [.bl _], _, he1 | [.str _], _, he1 | [.tup _], _, he1 | [.ref _], _, he1 | [.ty _], _, he1 | [.opq], _, he1 | [.scr _], _, he1 => exact he1.elim
    | _ :: _ :: _, _, he1 => exact (by (simp at he1; exact he1) : False).elim
theorem li_range2 {tg a b : Expr} {m : AD} {p : Pos} (hm : X.mg "range" = none) (ha : PA X [a, b] (LA T Wx m)) (hg : Gl X "range" := by rfl) (hs : starEach [a, b] X.env = [(false, eval a X.env), (false, eval b X.env)] := by rfl)
    (hs2 : starEach [b] X.env = [(false, eval b X.env)] := by rfl) : PI X tg (.Call (.Name "range" p) [a, b] [] pos) (LI T Wx (iRange2 m)) :=
  (pi_range2 hg hm ha hs hs2).imp fun σ H R h => by
    obtain ⟨ρ, σw, g, hs, hg, he⟩ := h
    refine ⟨ρ, σw, g, hs, hg, EndR.bind he fun x g1 ρ1 H1 vx gr1 R1 rx he1 => ?_⟩
    split at he1
    · rename_i lo hi
      simp only [RWsr, RWs, RW] at rx
      obtain ⟨v1, _, rfl, rfl, v2, _, rfl, rfl, rfl⟩ := rx
      split at he1
      · rename_i hn
        rw [Bool.and_eq_true] at hn
        have h1 := of_decide_eq_true hn.1
        have h2 := of_decide_eq_true hn.2
        exact ⟨lo, hi, rfl, ⟨h1.1, h1.2, h2.1, h2.2⟩, he1 ρ1 H1 (Itr lo (hi - lo).toNat) .refl R1 itRel_range⟩
      · exact he1.elim
    · exact he1.elim

def forGo (J : Items) (tg : GD) (body : SD) : List W → SD
  | [], σ, g => if still J g then .nx σ g else .bad
  | w :: ws, σ, g => if still J g then (tg w σ g).fl σ fun σ g => (match body σ g with
      | .nx σ g => forGo J tg body ws σ g
      | .ct σ g => forGo J tg body ws σ g
      | .bk σ g => .nx σ g
      | r => r) else .bad
def sFor (i : ID) (tg : GD) (body : SD) : SD := fun σ g => (i σ g).fl σ fun J g => forGo J tg body J.ws σ g
theorem lift_for {i : ID} {tg : GD} {body : SD} {D σ H} (h : LS T Wx (sFor i tg body) D σ H) : tFor (LI T Wx i) (LG T Wx tg) (LS T Wx body) D σ H := by
  obtain ⟨ρ0, σw0, g0, hs0, hg0, he0⟩ := h
  refine ⟨ρ0, σw0, g0, hs0, hg0, EndS.ofR hs0 he0 fun J g1 ρ1 H1 Jt gr1 R1 rel he1 => ?_⟩
  refine ⟨fun i m σ H => ∃ ρ σw g, Grow ρ1 H1 ρ H ∧ RS T ρ H σw σ ∧ RG T ρ H g ∧ m = (J.ws.drop i).length ∧ EndS T Wx D ρ H (forGo J tg body (J.ws.drop i) σw g), ⟨_, ρ1, σw0, g1, .refl, hs0.mono gr1 _ _, R1, rfl, by simpa using he1⟩, ?_⟩
  rintro i m σ H ⟨ρ, σw, g, gr, hs, hg, rfl, he⟩
  cases hd : J.ws.drop i with
  | nil =>
    rw [hd] at he
    simp only [forGo] at he
    split at he
    · rename_i hst
      exact .inl ⟨rel.stop ρ H g i gr hg hst (by simpa using hd), he ρ H σ .refl hg hs⟩
    · exact he.elim
  | cons w ws =>
    rw [hd] at he
    simp only [forGo] at he
    split at he
    · rename_i hst
      have hw : J.ws[i]? = some w := by
        have : (J.ws.drop i)[0]? = some w := by rw [hd]; rfl
        simpa using this
      have hws : J.ws.drop (i + 1) = ws := by
        have : (J.ws.drop i).drop 1 = ws := by rw [hd]; rfl
        rw [List.drop_drop] at this
        exact this
      refine .inr ⟨rel.go ρ H g i w gr hg hst hw, fun σ H => ∃ ρ σw g, Grow ρ1 H1 ρ H ∧ RS T ρ H σw σ ∧ RG T ρ H g ∧ EndS T Wx D ρ H (forGo J tg body ws σw g), fun σ' H' ⟨ρ, σw, g, a, b, c, d⟩ => ?_, fun x H' y => ?_⟩
      · exact ⟨ws.length, by simp, ρ, σw, g, a, b, c, by rw [hws], by rw [hws]; exact d⟩
      · obtain ⟨ρ2, gr2, R2, rw2⟩ := rel.yld ρ H g i w x H' gr hg hst hw y
        have he2 := EndS.base gr2 he
        have hs2 := hs.mono gr2 _ _
        refine ⟨ρ2, w, σw, g, rw2, hs2, R2, EndS.ofR hs2 he2 fun σ3 g3 ρ3 H3 σ' gr3 R3 rs3 he3 => ?_⟩
        refine ⟨ρ3, σ3, g3, rs3, R3, ?_⟩
        have grow : ∀ {ρ' H'}, Grow ρ3 H3 ρ' H' → Grow ρ1 H1 ρ' H' := fun q => ((gr.trans gr2).trans gr3).trans q
        cases hb : body σ3 g3 with
        | nx σ4 g4 => rw [hb] at he3; exact fun ρ' H' σ' gr' R' r' => ⟨ρ', σ4, g4, grow gr', r', R', EndS.base gr' he3⟩
        | ct σ4 g4 => rw [hb] at he3; exact fun ρ' H' σ' gr' R' r' => ⟨ρ', σ4, g4, grow gr', r', R', EndS.base gr' he3⟩
        | bk σ4 g4 => rw [hb] at he3; exact he3
        | rt w g4 => rw [hb] at he3; exact he3
        | ex c fs σ4 g4 => rw [hb] at he3; exact he3
        | bad => rw [hb] at he3; exact he3.elim
    · exact he.elim
theorem ls_for {iter tg : Expr} {x : List Stmt} {i : ID} {t : GD} {body : SD} (hp : PassesOwn (model X.prog X.w) X.A X.env X.xe) (hc : X.calm = true) (hi : PI X tg iter (LI T Wx i)) (hg : PG X tg (LG T Wx t)) (hb : PSs X x (LS T Wx body))
    (hs : ∀ x, foldedSetIterable iter X.env x = pure x := by intro _; rfl) : PS X (.For tg iter x [] pos) (LS T Wx (sFor i t body)) := (ps_for hp hc hi hg hb hs).imp fun _ _ _ h => lift_for h
end
end WL
end
section
set_option maxRecDepth 100000
namespace WL
open PySem PySem.Spec L2
open PyProof.Rows hiding St
set_option autoImplicit true
variable {T : Tab}
/-- the promise of a def: what the function gives -/
def LF (T : Tab) (n : Nat) (m : FN) : Sp := fun vs H Q E => ∃ ρ ws g, RG T ρ H g ∧ RWs T ρ H ws vs ∧ ws.length = n ∧ EndR (RWr T) T (fun cls d _ H => E cls d H) [] ρ H Q (m ws g)
def startW (n : Nat) (ws : List W) : Sg := ws.map some ++ List.replicate (n - ws.length) none
def Fl.out : Fl → Out W
  | .nx _ g => .ok .non g
  | .rt w g => .ok w g
  | .ex c fs _ g => .ex c fs g
  | _ => .bad
/-- a def with n slots, its body's denotation -/
def fnW (n : Nat) (body : SD) : FN := fun ws g => (body (startW n ws) g).out
theorem start_rs0 {ρ H} {N : List Str} : ∀ {ws : List W} {vs : List V}, RWs T ρ H ws vs → RS0 T ρ H (startW N.length ws) (L2.start N vs) := by
  intro ws vs h
  have hl := h.length
  unfold startW L2.start
  rw [hl]
  generalize N.length - vs.length = k
  have rep : ∀ k : Nat, RS0 T ρ H (List.replicate k none) (List.replicate k none) := fun k => by
    induction k with
    | zero => exact rfl
    | succ k ih => exact ⟨none, _, rfl, ih⟩
  clear hl
  induction ws generalizing vs with
  | nil => simp only [RWs] at h; subst h; exact rep k
  | cons w ws ih =>
    simp only [RWs] at h
    obtain ⟨v, r, rfl, a, b⟩ := h
    exact ⟨v, _, rfl, a, ih b⟩
theorem start_rs [NoEx T] {ρ H} {N : List Str} {ws : List W} {vs : List V} (h : RWs T ρ H ws vs) : RS T ρ H (startW N.length ws) (L2.start N vs) := ⟨start_rs0 h, .no⟩
theorem EndR.conv {α β : Type} {rel : List Addr → Hp → α → β → Prop} {Wx Wx' : WX} {σ σ' ρ H} {Q : β → Hp → Prop} {r : Out α} (h : EndR rel T Wx σ ρ H Q r) (e : ∀ c d H, Wx c d σ H → Wx' c d σ' H) : EndR rel T Wx' σ' ρ H Q r := by
  cases r with
  | ok a g => exact h
  | ex c fs g => exact fun ρ' H' C d vs a b c e1 e2 => e _ _ _ (h ρ' H' C d vs a b c e1 e2)
  | bad => exact h
theorem LF.len {n m} : ∀ vs H Q E, LF T n m vs H Q E → vs.length = n := fun vs H Q E ⟨ρ, ws, g, R, r, e, _⟩ => by rw [← e, r.length]
section
variable {P : Program} {w : World} {K : PySem.W.Frag} {mg : Str → Option Value} {base : Heap}
/-- a def as it stands behind the top keeps what its body's denotation gives -/
structure FnE (P : Program) (w : World) (K : PySem.W.Frag) (mg : Str → Option Value) (base : Heap) (T : Tab) (k : Nat) (f : Addr) (n : Nat) (m : FN) : Prop where
  ok : ∃ fd ps, FnOk P w K mg base (L2.CX P w) k f fd ps (LF T n m) ∧ Binds K fd ps [] ∧ ps.length = n
  kp : PySem.W.keepIn K (.ref f) = true
theorem fnE_of [NoEx T] {x qual : Str} {st : Stmt} {f : Addr} {fd : FuncData} {N ps : List Str} {k n : Nat} {body : SD} (F : Fun K x qual st f fd) (S : FnScope N ps (defScope st)) (hn : ps.length = n) (hb : Binds K fd ps [])
    (hbody : ∀ (cdv : Value) (A : Around) (outer : List Env) (s : Shared) (H : Hp) (E : XK), Room k (A.deeper (envOfC qual (defScope st) s.heap.objs.size f cdv)) →
      PSs (cxOf (L2.CX P w) P w K mg base N qual (defScope st) f cdv A outer s H E) (defBody st) (LS T (fun cls d _ H => E cls d H) body)) : FnE P w K mg base T (k + 1) f n (fnW N.length body) := by
  refine ⟨⟨fd, ps, ?_, hb, hn⟩, F.kp⟩
  refine F.okX S (fun vs H Q E h => by rw [hn]; exact LF.len _ _ _ _ h) fun cdv A outer s H vs Q E hr h => ⟨_, hbody cdv A outer s H E hr, ?_⟩
  obtain ⟨ρ, ws, g, R, r, e, he⟩ := h
  refine ⟨ρ, startW N.length ws, g, start_rs r, R, ?_⟩
  unfold fnW at he
  cases hb : body (startW N.length ws) g with
  | nx σ g => rw [hb] at he; exact fun ρ' H' σ' gr R' r' => he ρ' H' .non gr R' (by simp only [RWr, RW])
  | rt w g => rw [hb] at he; exact he
  | bk σ g => rw [hb] at he; exact he.elim
  | ct σ g => rw [hb] at he; exact he.elim
  | ex c fs σ g => rw [hb] at he; exact fun ρ' H' σ' C d vs gr R' r' => he ρ' H' C d vs gr R'
  | bad => rw [hb] at he; exact he.elim
end
section
variable {X : Cx} {Wx : WX} {k n : Nat} {f C : Addr} {m : FN} {e o : Expr} {es : List Expr} {ma mo : ED} {mas : AD} {pos p : Pos}
theorem Room.le {j k : Nat} {A : Around} (r : Room k A) (h : j ≤ k := by decide) : Room j A := r.mono h
def arity (n : Nat) (m : FN) : FN := fun ws g => if ws.length = n then m ws g else .bad
/-- the callee runs, in any surroundings that are as wide -/
theorem run_at {A : Around} {pins : List (Addr × Obj)} {σ : St} {H : Hp} {s : Shared} {Q : VK} {us : List Value} {vs : List V} {ρ : List Addr} {g : G} {ws : List W} (F : FnE X.prog X.w X.K X.mg X.base T k f n m) (hr : Room k A) (hf : Env0 X.prog X.w X.K X.mg X.base A X.stack s H) (tk : Takes X Wx)
    (I : Inv X pins σ H s) (R : RG T ρ H g) (rw' : RWs T ρ H ws vs) (rv : Vals vs us) (h : EndR (RWr T) T Wx σ ρ H Q (arity n m ws g)) : wpAny (model X.prog X.w) A (call (.ref f) us) (EP X pins σ Q) X.xe s := by
  obtain ⟨fd, ps, F, hb, hn⟩ := F.ok
  unfold arity at h
  split at h
  · rename_i hws
    have hl : us.length = ps.length := by rw [← rv.length, ← rw'.length, hws, hn]
    have b := hb s us I.kIn (by rw [List.append_nil]; exact hl)
    rw [List.append_nil] at b
    refine wpAny_call (codeAny_mono (F.run A X.stack s H ⟨us, []⟩ us vs Q (WE Wx σ) hr hf b rv ⟨ρ, ws, g, R, rw', hws, h.conv fun c d H q => q⟩) fun r s' hq => ?_)
    cases r with
    | error e => exact passAt tk σ pins H s e s' I hq
    | ok fl =>
      cases fl with
      | ret u => exact I.after hq
      | next => exact False.elim hq
      | brk => exact False.elim hq
      | cont => exact False.elim hq
  · exact h.elim
theorem call_fn (F : FnE X.prog X.w X.K X.mg X.base T k f n m) (hr : Room k X.A) (tk : Takes X Wx) : CallO X T Wx (.ref f) (arity n m) :=
  fun pins s σ H ρ g xs vs us Q I R rx r1 e => run_at F hr I.env0 tk I R rx r1 e
theorem le_callG {x : Str} {f : Addr} {F : FN} (ho : CallO X T Wx (.ref f) F) (hk : PySem.W.keepIn X.K (.ref f) = true) (hm : X.mg x = some (.ref f)) (ha : PA X (e :: es) (LA T Wx mas)) (hg : Gl X x := by rfl)
    (hdb : (x == ("__debug__" : Str)) = false := by decide) (he : starEach (e :: es) X.env = (false, eval e X.env) :: starEach es X.env := by rfl) (hpl : (backTo pos (starEach es X.env)).any (·.1) = false := by rfl) :
    PE X (.Call (.Name x p) (e :: es) [] pos) (LE T Wx (eFn F mas)) := ⟨fun pins s σ H Q I h => by
  refine wpAny_Call_Name_kw (ld_glob I hg hm ?_ hdb)
  exact PySem.W.callWith_K (h₀ := X.base) I.ok.mod.kin hk (liftN ho ha I h) he hpl⟩
theorem le_callG0 {x : Str} {f : Addr} {F : FN} (ho : CallO X T Wx (.ref f) F) (hk : PySem.W.keepIn X.K (.ref f) = true) (hm : X.mg x = some (.ref f)) (hg : Gl X x := by rfl)
    (hdb : (x == ("__debug__" : Str)) = false := by decide) : PE X (.Call (.Name x p) [] [] pos) (LE T Wx (eFn F aNil)) := ⟨fun pins s σ H Q I h => by
  refine wpAny_Call_Name_kw (ld_glob I hg hm ?_ hdb)
  refine PySem.W.callWith_K0 I.kIn hk ?_
  obtain ⟨ρ, σw, g, hs, hg, he⟩ := h
  exact ho pins s σ H ρ g [] [] [] Q I hg RWs.nil .nil he⟩
def mkW (c : Nat) (m : FN) : FN := fun ws g => match m (.ref g.length :: ws) (g ++ [.ins c []]) with
  | .ok .non g' => .ok (.ref g.length) g'
  | .ok _ _ => .bad
  | .ex c fs g => .ex c fs g
  | .bad => .bad
theorem call_mk {c : Nat} (M : Mk X.K C f) (hK : X.K = T.K) (hc : T.cls c = some C) (cw : ClsW T C) (F : FnE X.prog X.w X.K X.mg X.base T k f (n + 1) m) (hr : Room (k + 1) X.A) (tk : Takes X Wx) : CallO X T Wx (.ref C) (arity n (mkW c m)) := by
  intro pins s σ H ρ g ws vs us Q I R rw' rv h
  obtain ⟨fd, ps, F, hb, hn⟩ := F.ok
  unfold arity at h
  split at h
  · rename_i hws
    have hq : ∀ x dx, H x = none → H dx = none → dx ≠ x → LF T (n + 1) m (.ref x :: vs) (upd (upd H dx (.own x)) x (.ins C dx [])) (fun v H2 => v = .non ∧ Q (.ref x) H2) (WE Wx σ) := by
      intro x dx hx hdx ne
      have hx' : upd H dx (.own x) x = none := by rw [upd_ne ne.symm]; exact hx
      have R1 : RG T ρ (upd H dx (.own x)) g := R.extra hdx
      have gr : Grow ρ H (ρ ++ [x]) (upd (upd H dx (.own x)) x (.ins C dx [])) := (grow_fresh hdx).trans (grow_new hx')
      refine ⟨ρ ++ [x], .ref g.length :: ws, g ++ [.ins c []], R1.new (u := .ins c []) hx' ⟨C, dx, [], hc, cw, upd_same, rfl⟩, .cons (ref_new R) (rw'.mono gr _ _), by simp [hws], ?_⟩
      unfold mkW at h
      cases hm : m (.ref g.length :: ws) (g ++ [.ins c []]) with
      | ok a g' =>
        rw [hm] at h
        cases a with
        | non =>
          intro ρ' H' b gr2 R2 rb
          simp only [RWr, RW] at rb
          refine ⟨rb, h ρ' H' _ (gr.trans gr2) R2 ?_⟩
          simp only [RWr, RW]
          exact ⟨x, gr2.pre _ _ (by rw [← R.len]; simp), rfl⟩
        | _ => exact h.elim
      | ex c fs g' =>
        rw [hm] at h
        exact fun ρ' H' C' d vs' gr2 R2 => h ρ' H' C' d vs' (gr.trans gr2) R2
      | bad => rw [hm] at h; exact h.elim
    have hq1 := hq (s.heap.objs.size + 1) s.heap.objs.size (I.hok.fresh (Nat.le_succ _)) (I.hok.fresh (Nat.le_refl _)) (Nat.ne_of_lt (Nat.lt_succ_self _))
    have I2 := Inv.made (C := C) I
    have r2 : Vals (V.ref (s.heap.objs.size + 1) :: vs) (Value.ref (s.heap.objs.size + 1) :: us) := .cons rfl rv
    have hl : (Value.ref (s.heap.objs.size + 1) :: us).length = ps.length := by
      have e := r2.length
      rw [F.len _ _ _ _ hq1] at e
      exact e.symm
    have b := hb _ (Value.ref (s.heap.objs.size + 1) :: us) I2.kIn (by rw [List.append_nil]; exact hl)
    rw [List.append_nil] at b
    refine wpAny_call (make_map (f := f) I.kIn M.makes M.init (beq_iff_eq.mp M.fn) (codeAny_mono (F.run _ X.stack _ _ ⟨Value.ref (s.heap.objs.size + 1) :: us, []⟩ (Value.ref (s.heap.objs.size + 1) :: us) _ _ (WE Wx σ) (hr.make C us [])
      (I2.env0.make C us []) b r2 hq1) fun r s' hq' => ?_))
    cases r with
    | error e => exact passAt tk σ pins _ _ e s' I2 hq'
    | ok fl =>
      cases fl with
      | ret u =>
        obtain ⟨v, H', I3, rv, ev, q3⟩ := I2.after hq'
        subst ev
        exact ⟨rv, ⟨V.ref (s.heap.objs.size + 1), H', I3, rfl, q3⟩⟩
      | next => exact False.elim hq'
      | brk => exact False.elim hq'
      | cont => exact False.elim hq'
  · exact h.elim
def insAt (g : G) : W → Option (Nat × Nat × List (Nat × W))
  | .ref l => match g[l]? with
    | some (.ins c fs) => some (l, c, fs)
    | _ => none
  | _ => none
theorem insAt_ok {ρ H g x vx l c fs} (R : RG T ρ H g) (rx : RW T ρ H x vx) (h : insAt g x = some (l, c, fs)) : ∃ a C dx vs, x = .ref l ∧ ρ[l]? = some a ∧ vx = .ref a ∧ T.cls c = some C ∧ ClsW T C ∧ H a = some (.ins C dx vs) ∧ RF T ρ H fs vs ∧ g[l]? = some (.ins c fs) := by
  cases x with
  | ref l' =>
    simp only [RW] at rx
    obtain ⟨a, ha, rfl⟩ := rx
    obtain ⟨u, hu, ro⟩ := R.there ha
    simp only [insAt, hu] at h
    cases u with
    | ins c' fs' =>
      cases h
      obtain ⟨C, dx, vs, h1, h2, h3, h4⟩ := ro
      exact ⟨a, C, dx, vs, rfl, ha, rfl, h1, h2, h3, h4, hu⟩
    | _ => cases h
  | _ => cases h
def eFld (i : Nat) (a : ED) : ED := fun σ g => (a σ g).bind fun x g => match insAt g x with
  | some (_, _, fs) => match getW i fs with
    | some w => .ok w g
    | none => .bad
  | none => .bad
theorem le_fld (i : Nat) {nm : Str} (hK : X.K = T.K) (hn : T.fns[i]? = some nm) (he : PE X e (LE T Wx ma)) (hb : attributeBase e nm X.env (eval e X.env) = eval e X.env := by rfl) : PE X (.Attribute e nm pos) (LE T Wx (eFld i ma)) :=
  (pe_fld he hb).imp fun σ H Q h => by
    obtain ⟨ρ, σw, g, hs, hg, he⟩ := h
    refine ⟨ρ, σw, g, hs, hg, EndR.bind he fun x g1 ρ1 H1 vx gr1 R1 rx he1 => ?_⟩
    cases hx : insAt g1 x with
    | none => rw [hx] at he1; exact he1.elim
    | some q =>
      obtain ⟨l, c, fs⟩ := q
      rw [hx] at he1
      dsimp only at he1
      obtain ⟨a, C, dx, vs, rfl, ha, rfl, hc, cw, hH, rf, hg⟩ := insAt_ok R1 rx hx
      cases hw : getW i fs with
      | none => rw [hw] at he1; exact he1.elim
      | some w =>
        rw [hw] at he1
        obtain ⟨v, hv, rv⟩ := rf.lookup hn hw
        rw [hK]
        exact ⟨a, C, dx, vs, v, rfl, hH, cw.cl, cw.na nm (List.mem_of_getElem? hn), hv, he1 ρ1 H1 v .refl R1 rv⟩
/-- o.f = v -/
def gFld (i : Nat) (o : ED) (v : ED) : SD := fun σ g => (v σ g).fl σ fun y g => (o σ g).fl σ fun x g => match insAt g x with
  | some (l, c, fs) => if fs.length < 100 then .nx σ (g.set l (.ins c (putW i y fs))) else .bad
  | none => .bad
theorem ls_fld (i : Nat) {nm : Str} {mv : ED} {v : Expr} {pos' : Pos} (hK : X.K = T.K) (hn : T.fns[i]? = some nm) (ho : PE X o (LE T Wx mo)) (hv : PE X v (LE T Wx mv)) (hs : swapsWith v (some (.Attribute o nm pos')) pos.line X.env = pure false := by rfl) :
    PS X (.Assign [.Attribute o nm pos'] v pos) (LS T Wx (gFld i mo mv)) := (ps_fld ho hv hs).imp fun D σ H h => by
  obtain ⟨ρ, σw, g, hs, hg, he⟩ := h
  refine ⟨ρ, σw, g, hs, hg, EndS.ofR hs he fun y g1 ρ1 H1 vy gr1 R1 ry he1 => ?_⟩
  refine ⟨ρ1, σw, g1, hs.mono gr1 _ _, R1, EndS.ofR (hs.mono gr1 _ _) he1 fun x g2 ρ2 H2 vx gr2 R2 rx he2 => ?_⟩
  cases hx : insAt g2 x with
  | none => rw [hx] at he2; exact he2.elim
  | some q =>
    obtain ⟨l, c, fs⟩ := q
    rw [hx] at he2
    dsimp only at he2
    obtain ⟨a, C, dx, vs, rfl, ha, rfl, hc, cw, hH, rf, hg⟩ := insAt_ok R2 rx hx
    split at he2
    · rename_i hlen
      rw [hK]
      have mt : Mutb (H2 a) := by rw [hH]; trivial
      have gr3 : Grow ρ2 H2 ρ2 (upd H2 a (.ins C dx (putF nm vy vs))) := grow_write mt
      refine ⟨a, C, dx, vs, rfl, hH, cw.cl, cw.na nm (List.mem_of_getElem? hn), by rw [← rf.length]; omega, ?_⟩
      refine he2 ρ2 _ σ gr3 (R2.write ha ⟨C, dx, _, hc, cw, upd_same, ((rf.mono gr3 _ _).put ((ry.mono gr2 _ _).mono gr3 _ _) hn)⟩) ?_
      exact hs.mono ((gr1.trans gr2).trans gr3) _ _
    · exact he2.elim
/-- a constant of the class, off an instance -/
def eCon (cs : List (Nat × W)) (a : ED) : ED := fun σ g => (a σ g).bind fun x g => match insAt g x with
  | some (_, c, _) => match getW c cs with
    | some w => .ok w g
    | none => .bad
  | none => .bad
theorem le_con {cs : List (Nat × W)} {nm : Str} (hK : X.K = T.K) (hn : nm ∉ T.fns) (hc : ∀ c C w, getW c cs = some w → T.cls c = some C → ∃ v u, Con T.K C nm v u ∧ ∀ ρ H, RW T ρ H w v) (he : PE X e (LE T Wx ma)) (hb : attributeBase e nm X.env (eval e X.env) = eval e X.env := by rfl) :
    PE X (.Attribute e nm pos) (LE T Wx (eCon cs ma)) :=
  (pe_con he hb).imp fun σ H Q h => by
    obtain ⟨ρ, σw, g, hs, hg, he⟩ := h
    refine ⟨ρ, σw, g, hs, hg, EndR.bind he fun x g1 ρ1 H1 vx gr1 R1 rx he1 => ?_⟩
    cases hx : insAt g1 x with
    | none => rw [hx] at he1; exact he1.elim
    | some q =>
      obtain ⟨l, c, fs⟩ := q
      rw [hx] at he1
      dsimp only at he1
      obtain ⟨a, C, dx, vs, rfl, ha, rfl, h1, cw, hH, rf, hg⟩ := insAt_ok R1 rx hx
      cases hw : getW c cs with
      | none => rw [hw] at he1; exact he1.elim
      | some w =>
        rw [hw] at he1
        obtain ⟨v, u, k, r⟩ := hc c C w hw h1
        rw [hK]
        exact ⟨a, C, dx, vs, v, u, rfl, hH, cw.cl, k, rf.absent hn, he1 ρ1 H1 v .refl R1 (r ρ1 H1)⟩
abbrev Disp := List (Nat × FN)
def getD (c : Nat) : Disp → Option FN
  | [] => none
  | (k, x) :: r => if k = c then some x else getD c r
def DispOk (X : Cx) (T : Tab) (Wx : WX) (nm : Str) (d : Disp) : Prop := ∀ c F C, getD c d = some F → T.cls c = some C → ∃ f, Meth X.K C nm f ∧ CallO X T Wx (.ref f) F
theorem DispOk.nil {nm} : DispOk X T Wx nm [] := fun c F C h => by cases h
theorem DispOk.cons {nm c F f} {d : Disp} (h : ∀ C, T.cls c = some C → Meth X.K C nm f ∧ CallO X T Wx (.ref f) F) (r : DispOk X T Wx nm d) : DispOk X T Wx nm ((c, F) :: d) := fun c' F' C hg hc => by
  simp only [getD] at hg
  split at hg
  · rename_i e
    subst e
    cases hg
    exact ⟨f, h C hc⟩
  · exact r c' F' C hg hc
def eMeth (d : Disp) (o : ED) (a : AD) : ED := fun σ g => (o σ g).bind fun x g => match insAt g x with
  | some (_, c, _) => match getD c d with
    | some F => (a σ g).bind fun ws g => F (x :: ws) g
    | none => .bad
  | none => .bad
theorem le_meth {pl : Sem Bool} {nm : Str} {d : Disp} {apos : Pos} (hK : X.K = T.K) (hn : nm ∉ T.fns) (hd : DispOk X T Wx nm d) (ho : PE X o (LE T Wx mo)) (ha : PA X (e :: es) (LA T Wx mas))
    (hst : starEach (e :: es) X.env = (false, eval e X.env) :: starEach es X.env := by rfl) (hpl : (backTo pos (starEach es X.env)).any (·.1) = false := by rfl)
    (ht : eval (.Call (.Attribute o nm apos) (e :: es) [] pos) X.env = (do
      let ov ← eval o X.env
      standAt apos.atName
      let (f, first) ← holding [ov] (getMethod ov nm pl)
      callWith pos f first (backTo pos (starEach (e :: es) X.env)) (backToKw pos (keywordEach [] X.env))) := by rfl) :
    PE X (.Call (.Attribute o nm apos) (e :: es) [] pos) (LE T Wx (eMeth d mo mas)) := ⟨fun pins s σ H Q I h => by
  obtain ⟨ρ, σw, g, hs, hg, he⟩ := h
  refine PySem.W.methodCall_KW (pl := pl) (thn (ho.run pins s σ H _ I ⟨ρ, σw, g, hs, hg, EndR.bind (Q' := fun vx H1 => ∃ ρ1 x g1, RS T ρ1 H1 σw σ ∧ RG T ρ1 H1 g1 ∧ RW T ρ1 H1 x vx ∧ EndR (RWr T) T Wx σ ρ1 H1 Q (match insAt g1 x with
    | some (_, c, _) => match getD c d with
      | some F => (mas σw g1).bind fun ws g => F (x :: ws) g
      | none => .bad
    | none => .bad)) he fun x g1 ρ1 H1 vx gr1 R1 rx he1 => ⟨ρ1, x, g1, hs.mono gr1 _ _, R1, rx, he1⟩⟩) fun u s1 ⟨vx, H1, I1, r1, ρ1, x, g1, hs1, R1, rx, he1⟩ => ?_) ht
  cases hx : insAt g1 x with
  | none => rw [hx] at he1; exact he1.elim
  | some q =>
    obtain ⟨l, c, fs⟩ := q
    rw [hx] at he1
    dsimp only at he1
    obtain ⟨a, C, dx, vs, rfl, ha', rfl, h1, cw, hH, rf, hg⟩ := insAt_ok R1 rx hx
    obtain rfl : u = Value.ref a := r1
    cases hF : getD c d with
    | none => rw [hF] at he1; exact he1.elim
    | some F =>
      rw [hF] at he1
      obtain ⟨f, hm, hcall⟩ := hd c F C hF h1
      refine getmeth_ok I1 hH (by rw [hK]; exact cw.cl) hm (rf.absent hn) ?_
      refine PySem.W.callWith_K (first := [.ref a]) (h₀ := X.base) I.ok.mod.kin hm.kp (thn (ha.run pos pins s1 σ H1 _ I1 ⟨ρ1, σw, g1, hs1, R1, EndR.bind (Q' := fun vs H2 => ∃ ρ2 xs g2, RG T ρ2 H2 g2 ∧ RW T ρ2 H2 (.ref l) (.ref a) ∧ RWs T ρ2 H2 xs vs ∧ EndR (RWr T) T Wx σ ρ2 H2 Q (F (.ref l :: xs) g2)) he1
        fun xs g2 ρ2 H2 vs gr2 R2 rxs he2 => ⟨ρ2, xs, g2, R2, rx.mono gr2 _ _, rxs, he2⟩⟩) fun us s2 ⟨vs, H2, I2, r2, ρ2, xs, g2, R2, rx2, rxs, he2⟩ => ⟨I2.kIn, ?_⟩) hst hpl
      exact hcall pins s2 σ H2 ρ2 g2 (.ref l :: xs) (.ref a :: vs) (.ref a :: us) Q I2 R2 (.cons rx2 rxs) (.cons rfl r2) he2⟩
theorem le_meth0 {pl : Sem Bool} {nm : Str} {d : Disp} {apos : Pos} (hK : X.K = T.K) (hn : nm ∉ T.fns) (hd : DispOk X T Wx nm d) (ho : PE X o (LE T Wx mo))
    (ht : eval (.Call (.Attribute o nm apos) [] [] pos) X.env = (do
      let ov ← eval o X.env
      standAt apos.atName
      let (f, first) ← holding [ov] (getMethod ov nm pl)
      callWith pos f first (backTo pos (starEach [] X.env)) (backToKw pos (keywordEach [] X.env))) := by rfl) :
    PE X (.Call (.Attribute o nm apos) [] [] pos) (LE T Wx (eMeth d mo aNil)) := ⟨fun pins s σ H Q I h => by
  obtain ⟨ρ, σw, g, hs, hg, he⟩ := h
  refine PySem.W.methodCall_KW (pl := pl) (thn (ho.run pins s σ H _ I ⟨ρ, σw, g, hs, hg, EndR.bind (Q' := fun vx H1 => ∃ ρ1 x g1, RG T ρ1 H1 g1 ∧ RW T ρ1 H1 x vx ∧ EndR (RWr T) T Wx σ ρ1 H1 Q (match insAt g1 x with
    | some (_, c, _) => match getD c d with
      | some F => (aNil σw g1).bind fun ws g => F (x :: ws) g
      | none => .bad
    | none => .bad)) he fun x g1 ρ1 H1 vx gr1 R1 rx he1 => ⟨ρ1, x, g1, R1, rx, he1⟩⟩) fun u s1 ⟨vx, H1, I1, r1, ρ1, x, g1, R1, rx, he1⟩ => ?_) ht
  cases hx : insAt g1 x with
  | none => rw [hx] at he1; exact he1.elim
  | some q =>
    obtain ⟨l, c, fs⟩ := q
    rw [hx] at he1
    dsimp only at he1
    obtain ⟨a, C, dx, vs, rfl, ha', rfl, h1, cw, hH, rf, hg⟩ := insAt_ok R1 rx hx
    obtain rfl : u = Value.ref a := r1
    cases hF : getD c d with
    | none => rw [hF] at he1; exact he1.elim
    | some F =>
      rw [hF] at he1
      obtain ⟨f, hm, hcall⟩ := hd c F C hF h1
      refine getmeth_ok I1 hH (by rw [hK]; exact cw.cl) hm (rf.absent hn) ?_
      refine PySem.W.callWith_K0 (first := [.ref a]) I1.kIn hm.kp ?_
      exact hcall pins s1 σ H1 ρ1 g1 [.ref l] [.ref a] [.ref a] Q I1 R1 (.cons rx .nil) (.cons rfl .nil) he1⟩
end
end WL
end
section
set_option maxRecDepth 100000
namespace WL
open PySem PySem.Spec L2
open PyProof.Rows hiding St
set_option autoImplicit true
variable {T : Tab}
section
variable {X : Cx} {Wx : WX}
theorem endok {α β : Type} {rel : List Addr → Hp → α → β → Prop} {Wx : WX} {σ ρ H a b g} {Q : β → Hp → Prop} (R : RG T ρ H g) (r : rel ρ H a b) (h : EndR rel T Wx σ ρ H Q (.ok a g)) : Q b H := h ρ H b .refl R r
theorem rw_int {ρ H i v} (h : RW T ρ H (.int i) v) : v = .int i := by simpa only [RW] using h
theorem rw_str {ρ H i v} (h : RW T ρ H (.str i) v) : v = .str i := by simpa only [RW] using h
theorem rw_bl {ρ H i v} (h : RW T ρ H (.bl i) v) : v = .bl i := by simpa only [RW] using h
theorem rw_non {ρ H v} (h : RW T ρ H .non v) : v = .non := by simpa only [RW] using h
theorem rwi {ρ H i} : RW T ρ H (.int i) (.int i) := by simp only [RW]
theorem rws {ρ H i} : RW T ρ H (.str i) (.str i) := by simp only [RW]
theorem rwb {ρ H i} : RW T ρ H (.bl i) (.bl i) := by simp only [RW]
theorem rwn {ρ H} : RW T ρ H .non .non := by simp only [RW]
def iiF (f : Int → Int → W) : F2 := fun x y g => match x, y with
  | .int i, .int j => .ok (f i j) g
  | _, _ => .bad
theorem ii_inv {f : Int → Int → W} {x y g Wx σ ρ H Q} (h : EndR (RWr T) T Wx σ ρ H Q (iiF f x y g)) : ∃ i j, x = .int i ∧ y = .int j ∧ EndR (RWr T) T Wx σ ρ H Q (.ok (f i j) g) := by
  unfold iiF at h
  split at h
  · exact ⟨_, _, rfl, rfl, h⟩
  · exact h.elim
theorem oi_of {op : Value → Value → Sem Value} {k : Int → Int → V} {f : Int → Int → W} (h : OpR X op (rI0 k)) (hf : ∀ i j ρ H, RW T ρ H (f i j) (k i j)) : OpO X T Wx op (iiF f) := OpO.of h fun σ ρ H g x y vx vy Q R rx ry e => by
  obtain ⟨i, j, rfl, rfl, e⟩ := ii_inv e
  exact ⟨i, j, rw_int rx, rw_int ry, endok R (hf i j ρ H) e⟩
def subF : F2 := iiF fun i j => .int (i - j)
theorem o_sub : OpO X T Wx (binaryOp .Sub) subF := oi_of op_sub fun _ _ _ _ => rwi
def ltF : F2 := iiF fun i j => .bl (decide (i < j))
def leF : F2 := iiF fun i j => .bl (decide (i ≤ j))
def gtF : F2 := iiF fun i j => .bl (decide (j < i))
def geF : F2 := iiF fun i j => .bl (decide (j ≤ i))
theorem o_lt : OpO X T Wx (compareOp .Lt) ltF := oi_of op_lt fun _ _ _ _ => rwb
theorem o_le : OpO X T Wx (compareOp .LtE) leF := oi_of op_le fun _ _ _ _ => rwb
theorem o_gt : OpO X T Wx (compareOp .Gt) gtF := oi_of op_gt fun _ _ _ _ => rwb
theorem o_ge : OpO X T Wx (compareOp .GtE) geF := oi_of op_ge fun _ _ _ _ => rwb
/-- n // k, n % k for k > 0 below 2^100 -/
def fdivF : F2 := fun x y g => match x, y with
  | .int i, .int j => if 0 < j ∧ j < 2 ^ 100 then .ok (.int (i / j)) g else .bad
  | _, _ => .bad
def modF : F2 := fun x y g => match x, y with
  | .int i, .int j => if 0 < j then .ok (.int (i % j)) g else .bad
  | _, _ => .bad
def powF : F2 := fun x y g => match x, y with
  | .int i, .int j => if 0 ≤ j ∧ j ≤ 1000 ∧ i.natAbs < 2 ^ 64 then .ok (.int (i ^ j.toNat)) g else .bad
  | _, _ => .bad
theorem o_fdiv : OpO X T Wx (binaryOp .FloorDiv) fdivF := OpO.of op_fdivW fun σ ρ H g x y vx vy Q R rx ry e => by
  unfold fdivF at e
  split at e
  · rename_i i j
    split at e
    · rename_i hj
      exact ⟨i, j, rw_int rx, rw_int ry, wide_div (b := 100) hj.1 (by omega) (by decide) (by decide), endok R rwi e⟩
    · exact e.elim
  · exact e.elim
theorem o_mod : OpO X T Wx (binaryOp .Mod) modF := OpO.of op_mod fun σ ρ H g x y vx vy Q R rx ry e => by
  unfold modF at e
  split at e
  · rename_i i j
    split at e
    · rename_i hj
      exact ⟨i, j, rw_int rx, rw_int ry, hj, endok R rwi e⟩
    · exact e.elim
  · exact e.elim
theorem o_pow : OpO X T Wx (binaryOp .Pow) powF := OpO.of op_pow fun σ ρ H g x y vx vy Q R rx ry e => by
  unfold powF at e
  split at e
  · rename_i i j
    split at e
    · rename_i hj
      exact ⟨i, j, rw_int rx, rw_int ry, ⟨hj.1, by omega, hj.2.2⟩, endok R rwi e⟩
    · exact e.elim
  · exact e.elim
theorem lst_at {ρ H a} {g : G} {l : Nat} {ws : List W} (R : RG T ρ H g) (h : g[l]? = some (.lst ws)) (ha : ρ[l]? = some a) : ∃ vs, H a = some (.lst vs) ∧ RWs T ρ H ws vs := R.obj l _ a h ha
theorem rw_ref {ρ H l v} (h : RW T ρ H (.ref l) v) : ∃ a, ρ[l]? = some a ∧ v = .ref a := by simpa only [RW] using h
theorem rw_tup {ρ H ws v} (h : RW T ρ H (.tup ws) v) : ∃ a vs, v = .ref a ∧ H a = some (.tup vs) ∧ RWs T ρ H ws vs := by simpa only [RW] using h
theorem rwt {ρ H ws a vs} (h : H a = some (.tup vs)) (r : RWs T ρ H ws vs) : RW T ρ H (.tup ws) (.ref a) := by simp only [RW]; exact ⟨a, vs, rfl, h, r⟩
def listAt (g : G) : W → Option (List W)
  | .ref l => match g[l]? with
    | some (.lst ws) => some ws
    | _ => none
  | _ => none
theorem listAt_ok {ρ H g x v ws} (R : RG T ρ H g) (r : RW T ρ H x v) (h : listAt g x = some ws) : ∃ l a vs, x = .ref l ∧ g[l]? = some (.lst ws) ∧ ρ[l]? = some a ∧ v = .ref a ∧ H a = some (.lst vs) ∧ RWs T ρ H ws vs := by
  cases x with
  | ref l =>
    obtain ⟨a, ha, rfl⟩ := rw_ref r
    simp only [listAt] at h
    split at h
    · rename_i ws' e
      cases h
      obtain ⟨vs, hv, rr⟩ := lst_at R e ha
      exact ⟨l, a, vs, rfl, e, ha, rfl, hv, rr⟩
    · cases h
  | _ => cases h
/-- a list or a tuple, read (the script too) -/
def seqAt (g : G) : W → Option (List W)
  | .tup ws => some ws
  | .scr ns => some (ns.map .int)
  | x => listAt g x
theorem rws_ints {ρ H} : ∀ ns : List Int, RWs T ρ H (ns.map .int) (ns.map V.int)
  | [] => RWs.nil
  | n :: ns => .cons rwi (rws_ints ns)
theorem seqAt_ok {ρ H g x v ws} (R : RG T ρ H g) (r : RW T ρ H x v) (h : seqAt g x = some ws) : ∃ a vs, v = .ref a ∧ (SqL T.K H a vs ∨ SqT T.K H a vs) ∧ RWs T ρ H ws vs := by
  have lst : listAt g x = some ws → ∃ a vs, v = .ref a ∧ (SqL T.K H a vs ∨ SqT T.K H a vs) ∧ RWs T ρ H ws vs := fun h => by
    obtain ⟨l, a, vs, rfl, _, _, rfl, e, q⟩ := listAt_ok R r h
    exact ⟨a, vs, rfl, .inl (SqL.of e), q⟩
  cases x with
  | tup ts =>
    cases h
    obtain ⟨a, vs, rfl, e, q⟩ := rw_tup r
    exact ⟨a, vs, rfl, .inr (SqT.of e), q⟩
  | scr ns =>
    cases h
    simp only [RW] at r
    obtain ⟨a, rfl, e⟩ := r
    exact ⟨a, _, rfl, .inl e.seq, rws_ints ns⟩
  | _ => exact lst h
/-- + : ints, texts, tuples, lists -/
def addF : F2 := fun x y g => match x, y with
  | .int i, .int j => .ok (.int (i + j)) g
  | .str a, .str b => if fits a.length && fits b.length then .ok (.str (a ++ b)) g else .bad
  | .tup a, .tup b => if fits a.length && fits b.length then .ok (.tup (a ++ b)) g else .bad
  | .ref l, .ref k => match listAt g (.ref l), listAt g (.ref k) with
    | some a, some b => if fits a.length && fits b.length then .ok (.ref g.length) (g ++ [.lst (a ++ b)]) else .bad
    | _, _ => .bad
  | _, _ => .bad
theorem fits2 {m n : Nat} (h : (fits m && fits n) = true) : m + n ≤ sizeLine := by
  rw [Bool.and_eq_true] at h
  have h1 := of_decide_eq_true h.1
  have h2 := of_decide_eq_true h.2
  rw [sizeLine_eq]
  omega
theorem o_add (hK : X.K = T.K) : OpO X T Wx (binaryOp .Add) addF := OpO.of (((op_add (X := X)).or op_add_str).or (op_catA.or op_cat)) fun σ ρ H g x y vx vy Q R rx ry e => by
  unfold addF at e
  split at e
  · exact .inl (.inl ⟨_, _, rw_int rx, rw_int ry, endok R rwi e⟩)
  · split at e
    · rename_i hf
      exact .inl (.inr ⟨_, _, rw_str rx, rw_str ry, fits2 hf, endok R rws e⟩)
    · exact e.elim
  · rename_i a b
    split at e
    · rename_i hf
      obtain ⟨p, vs, rfl, hp, r1⟩ := rw_tup rx
      obtain ⟨q, us, rfl, hq, r2⟩ := rw_tup ry
      refine .inr (.inl ⟨p, q, vs, us, rfl, rfl, by rw [hK]; exact SqT.of hp, by rw [hK]; exact SqT.of hq, by rw [← r1.length, ← r2.length]; exact fits2 hf, fun z => ?_, fun _ z => ?_, fun _ _ t ht => ?_⟩)
      · subst z
        have : a = [] := List.eq_nil_of_length_eq_zero r1.length
        subst this
        exact endok R (rwt hq r2) e
      · subst z
        have : b = [] := List.eq_nil_of_length_eq_zero r2.length
        subst this
        rw [List.append_nil] at e
        exact endok R (rwt hp r1) e
      · exact e ρ _ _ (grow_fresh ht) (R.extra ht) (tup_new ht (r1.append r2))
    · exact e.elim
  · split at e
    · rename_i a b h1 h2
      split at e
      · rename_i hf
        obtain ⟨_, p, vs, _, _, _, rfl, hp, r1⟩ := listAt_ok R rx h1
        obtain ⟨_, q, us, _, _, _, rfl, hq, r2⟩ := listAt_ok R ry h2
        exact .inr (.inr ⟨p, q, vs, us, rfl, rfl, hp, hq, by rw [← r1.length, ← r2.length]; exact fits2 hf, fun t ht => e _ _ _ (grow_new ht) (new_lst R ht (r1.append r2)) (ref_new R)⟩)
      · exact e.elim
    · exact e.elim
  · exact e.elim
/-- * : ints (one below 2^64), a list a number of times -/
def mulF : F2 := fun x y g => match x, y with
  | .int i, .int j => if (-(2 ^ 64) < i ∧ i < 2 ^ 64) ∨ (-(2 ^ 64) < j ∧ j < 2 ^ 64) then .ok (.int (i * j)) g else .bad
  | .ref l, .int k => match listAt g (.ref l) with
    | some a => if 0 ≤ k ∧ k < 1000 ∧ a.length < 1000 then .ok (.ref g.length) (g ++ [.lst (List.replicate k.toNat a).flatten]) else .bad
    | _ => .bad
  | _, _ => .bad
theorem rws_rep {ρ H ws vs} (r : RWs T ρ H ws vs) : ∀ k : Nat, RWs T ρ H (List.replicate k ws).flatten (List.replicate k vs).flatten
  | 0 => RWs.nil
  | k + 1 => by
    rw [List.replicate_succ, List.replicate_succ, List.flatten_cons, List.flatten_cons]
    exact r.append (rws_rep r k)
theorem o_mul : OpO X T Wx (binaryOp .Mult) mulF := OpO.of ((op_mul (X := X)).or op_rep) fun σ ρ H g x y vx vy Q R rx ry e => by
  unfold mulF at e
  split at e
  · split at e
    · rename_i hc
      exact .inl ⟨_, _, rw_int rx, rw_int ry, hc, endok R rwi e⟩
    · exact e.elim
  · rename_i l k
    split at e
    · rename_i a h1
      split at e
      · rename_i hf
        obtain ⟨_, p, vs, _, _, _, rfl, hp, r1⟩ := listAt_ok R rx h1
        refine .inr ⟨p, k, vs, rfl, rw_int ry, hp, by omega, by omega, ?_, fun t ht => e _ _ _ (grow_new ht) (new_lst R ht (rws_rep r1 _)) (ref_new R)⟩
        rw [← r1.length, sizeLine_eq]
        have h1 : a.length ≤ 1000 := by omega
        have h2 : k.toNat ≤ 1000 := by omega
        exact Nat.le_trans (Nat.mul_le_mul h1 h2) (by decide)
      · exact e.elim
    · exact e.elim
  · exact e.elim
mutual
def toDg (rf : Nat → Option PyData) : W → Option PyData
  | .non => some .none
  | .bl b => some (.bool b)
  | .int i => some (.int i)
  | .str s => some (.str s)
  | .tup ws => (toDgs rf ws).map .tuple
  | .ref l => rf l
  | _ => none
def toDgs (rf : Nat → Option PyData) : List W → Option (List PyData)
  | [] => some []
  | w :: ws => match toDg rf w, toDgs rf ws with
    | some d, some ds => some (d :: ds)
    | _, _ => none
end
def rfD (g : G) : Nat → Nat → Option PyData
  | 0, _ => none
  | n + 1, l => match g[l]? with
    | some (.lst ws) => (toDgs (rfD g n) ws).map .list
    | _ => none
def toD (g : G) : W → Option PyData := toDg (rfD g 4)
mutual
theorem toDg_ok {ρ H} {rf : Nat → Option PyData} (hr : ∀ l d a, rf l = some d → ρ[l]? = some a → Dp T.K H (.ref a) d) : ∀ (w : W) (d : PyData) (v : V), toDg rf w = some d → RW T ρ H w v → Dp T.K H v d
  | .non, d, v, h, r => by cases h; rw [rw_non r]; exact .non
  | .bl b, d, v, h, r => by cases h; rw [rw_bl r]; exact .bl b
  | .int i, d, v, h, r => by cases h; rw [rw_int r]; exact .int i
  | .str x, d, v, h, r => by cases h; rw [rw_str r]; exact .str x
  | .tup ws, d, v, h, r => by
    obtain ⟨a, vs, rfl, e, q⟩ := rw_tup r
    simp only [toDg] at h
    cases hd : toDgs rf ws with
    | none => rw [hd] at h; cases h
    | some ds => rw [hd] at h; cases h; exact .tup (SqT.of e) (toDgs_ok hr ws ds vs hd q)
  | .ref l, d, v, h, r => by
    obtain ⟨a, ha, rfl⟩ := rw_ref r
    exact hr l d a h ha
  | .ty _, d, v, h, r => by cases h
  | .opq, d, v, h, r => by cases h
  | .scr _, d, v, h, r => by cases h
theorem toDgs_ok {ρ H} {rf : Nat → Option PyData} (hr : ∀ l d a, rf l = some d → ρ[l]? = some a → Dp T.K H (.ref a) d) : ∀ (ws : List W) (ds : List PyData) (vs : List V), toDgs rf ws = some ds → RWs T ρ H ws vs → DpAll T.K H vs ds
  | [], ds, vs, h, r => by cases h; simp only [RWs] at r; subst r; exact .nil
  | w :: ws, ds, vs, h, r => by
    simp only [RWs] at r
    obtain ⟨v, q, rfl, r1, r2⟩ := r
    simp only [toDgs] at h
    split at h
    · rename_i d ds' h1 h2
      cases h
      exact .cons (toDg_ok hr w d v h1 r1) (toDgs_ok hr ws ds' q h2 r2)
    · cases h
end
theorem rfD_ok {ρ H g} (R : RG T ρ H g) : ∀ (n l : Nat) (d : PyData) (a : Addr), rfD g n l = some d → ρ[l]? = some a → Dp T.K H (.ref a) d
  | 0, _, _, _, h, _ => by cases h
  | n + 1, l, d, a, h, ha => by
    simp only [rfD] at h
    split at h
    · rename_i ws e
      obtain ⟨vs, hv, r⟩ := lst_at R e ha
      cases hd : toDgs (rfD g n) ws with
      | none => rw [hd] at h; cases h
      | some ds => rw [hd] at h; cases h; exact .lst (SqL.of hv) (toDgs_ok (rfD_ok R n) ws ds vs hd r)
    · cases h
theorem toD_ok {ρ H g x v d} (R : RG T ρ H g) (h : toD g x = some d) (r : RW T ρ H x v) : Dp T.K H v d := toDg_ok (rfD_ok R 4) x d v h r
def eqF : F2 := fun x y g => match toD g x, toD g y with
  | some d, some e => if SeqAt.shaped d && SeqAt.shaped e then .ok (.bl (PyData.eqv d e)) g else .bad
  | _, _ => .bad
def neF : F2 := fun x y g => match toD g x, toD g y with
  | some d, some e => if SeqAt.shaped d && SeqAt.shaped e then .ok (.bl (!PyData.eqv d e)) g else .bad
  | _, _ => .bad
theorem o_eq (hK : X.K = T.K) (hu : X.A.units + 64 < cLine) : OpO X T Wx (compareOp .Eq) eqF := OpO.of (op_eqD hu) fun σ ρ H g x y vx vy Q R rx ry e => by
  unfold eqF at e
  split at e
  · rename_i d1 d2 h1 h2
    split at e
    · rename_i hs
      rw [Bool.and_eq_true] at hs
      rw [hK]
      exact ⟨d1, d2, toD_ok R h1 rx, toD_ok R h2 ry, hs.1, hs.2, endok R rwb e⟩
    · exact e.elim
  · exact e.elim
theorem o_ne (hK : X.K = T.K) (hu : X.A.units + 64 < cLine) : OpO X T Wx (compareOp .NotEq) neF := OpO.of (op_neD hu) fun σ ρ H g x y vx vy Q R rx ry e => by
  unfold neF at e
  split at e
  · rename_i d1 d2 h1 h2
    split at e
    · rename_i hs
      rw [Bool.and_eq_true] at hs
      rw [hK]
      exact ⟨d1, d2, toD_ok R h1 rx, toD_ok R h2 ry, hs.1, hs.2, endok R rwb e⟩
    · exact e.elim
  · exact e.elim
def isNF : F2 := fun x y g => match y with
  | .non => match x with
    | .opq => .bad
    | .non => .ok (.bl true) g
    | _ => .ok (.bl false) g
  | .bl b => match x with
    | .bl a => .ok (.bl (decide (a = b))) g
    | _ => .bad
  | _ => .bad
def notNF : F2 := fun x y g => match isNF x y g with
  | .ok (.bl b) g => .ok (.bl (!b)) g
  | _ => .bad
theorem rw_isN {ρ H x v} (r : RW T ρ H x v) (h : x ≠ .opq) : decide (v = .non) = decide (x = .non) := by
  cases x with
  | non => rw [rw_non r]; simp
  | bl b => rw [rw_bl r]; simp
  | int i => rw [rw_int r]; simp
  | str x => rw [rw_str r]; simp
  | tup ws => obtain ⟨a, vs, rfl, _⟩ := rw_tup r; simp
  | ref l => obtain ⟨a, _, rfl⟩ := rw_ref r; simp
  | ty n => simp only [RW] at r; subst r; simp
  | opq => exact absurd rfl h
  | scr ns => simp only [RW] at r; obtain ⟨a, rfl, _⟩ := r; simp
theorem isN_inv {x y g Wx σ ρ H Q} (h : EndR (RWr T) T Wx σ ρ H Q (isNF x y g)) : (y = .non ∧ x ≠ .opq ∧ EndR (RWr T) T Wx σ ρ H Q (.ok (.bl (decide (x = .non))) g)) ∨ ∃ a b, x = .bl a ∧ y = .bl b ∧ EndR (RWr T) T Wx σ ρ H Q (.ok (.bl (decide (a = b))) g) := by
  unfold isNF at h
  split at h
  · split at h
    · exact h.elim
    · exact .inl ⟨rfl, by simp, h⟩
    · rename_i h1 h2
      exact .inl ⟨rfl, h1, by rw [decide_eq_false h2]; exact h⟩
  · split at h
    · exact .inr ⟨_, _, rfl, rfl, h⟩
    · exact h.elim
  · exact h.elim
theorem o_is : OpO X T Wx (compareOp .Is) isNF := OpO.of ((op_isN (X := X)).or op_isBl) fun σ ρ H g x y vx vy Q R rx ry e => by
  rcases isN_inv e with ⟨rfl, hx, e⟩ | ⟨a, b, rfl, rfl, e⟩
  · exact .inl ⟨rw_non ry, endok R (by rw [← rw_isN rx hx]; exact rwb) e⟩
  · exact .inr ⟨a, b, rw_bl rx, rw_bl ry, endok R rwb e⟩
theorem o_isnot : OpO X T Wx (compareOp .IsNot) notNF := OpO.of ((op_notN (X := X)).or op_notBl) fun σ ρ H g x y vx vy Q R rx ry e => by
  have key : ∀ b g', isNF x y g = .ok (.bl b) g' → EndR (RWr T) T Wx σ ρ H (fun v H' => Q (.bl (!b)) H') (isNF x y g) := fun b g' e' => by
    unfold notNF at e
    rw [e'] at e
    rw [e']
    exact fun ρ' H' v gr R' r => e ρ' H' _ gr R' rwb
  unfold notNF at e
  split at e
  · rename_i b g' e'
    rcases isN_inv (key b g' e') with ⟨rfl, hx, e2⟩ | ⟨a, c, rfl, rfl, e2⟩
    · have hb : b = decide (x = .non) := by
        unfold isNF at e'
        split at e' <;> (try cases e') <;> simp_all
        split at e' <;> simp_all
      refine .inl ⟨rw_non ry, ?_⟩
      rw [rw_isN rx hx, ← hb]
      exact e2 ρ H (.bl (decide (x = .non))) .refl R rwb
    · have hb : b = decide (a = c) := by
        simp only [isNF] at e'
        cases e'
        rfl
      refine .inr ⟨a, c, rw_bl rx, rw_bl ry, ?_⟩
      rw [← hb]
      exact e2 ρ H (.bl (decide (a = c))) .refl R rwb
  · exact e.elim
end
end WL
end
section
set_option maxRecDepth 100000
namespace WL
open PySem PySem.Spec L2
open PyProof.Rows hiding St
set_option autoImplicit true
variable {T : Tab}
section
variable {X : Cx} {Wx : WX}
def keyW : W → Option Key
  | .int i => some (.inl i)
  | .str s => some (.inr s)
  | _ => none
def keysL : List W → Option (List Key)
  | [] => some []
  | w :: ws => match keyW w, keysL ws with
    | some k, some ks => some (k :: ks)
    | _, _ => none
def keysW : W → Option (List Key)
  | .tup ws => keysL ws
  | _ => none
theorem keyW_ok {ρ H x v k} (h : keyW x = some k) (r : RW T ρ H x v) : v = kV k := by
  cases x with
  | int i => cases h; exact rw_int r
  | str s => cases h; exact rw_str r
  | _ => cases h
theorem keysL_ok {ρ H} : ∀ {ws : List W} {vs : List V} {ks : List Key}, keysL ws = some ks → RWs T ρ H ws vs → vs = ks.map kV
  | [], vs, ks, h, r => by cases h; simp only [RWs] at r; subst r; rfl
  | w :: ws, vs, ks, h, r => by
    simp only [RWs] at r
    obtain ⟨v, q, rfl, r1, r2⟩ := r
    simp only [keysL] at h
    split at h
    · rename_i k ks' h1 h2
      cases h
      rw [keyW_ok h1 r1, keysL_ok h2 r2]
      rfl
    · cases h
theorem keysW_ok {ρ H x v ks} (h : keysW x = some ks) (r : RW T ρ H x v) : ∃ b, v = .ref b ∧ H b = some (.tup (ks.map kV)) := by
  cases x with
  | tup ws =>
    obtain ⟨a, vs, rfl, e, q⟩ := rw_tup r
    exact ⟨a, rfl, by rw [e, keysL_ok h q]⟩
  | _ => cases h
/-- what a dict holds at a key (none: not asked so) -/
def dictGet (g : G) (x y : W) : Option (Option W) := match x with
  | .ref l => match g[l]? with
    | some (.dK kvs) => (keyW y).map fun k => getK k kvs
    | some (.dT kvs) => (keysW y).map fun k => getK k kvs
    | _ => none
  | _ => none
theorem dictGet_ok {ρ H g x y vx vy o} (R : RG T ρ H g) (rx : RW T ρ H x vx) (ry : RW T ρ H y vy) (h : dictGet g x y = some o) : ∃ a ov, vx = .ref a ∧ DGet H a vy ov ∧ (∀ w, o = some w → ∃ v, ov = some v ∧ RW T ρ H w v) ∧ (o = none → ov = none) := by
  cases x with
  | ref l =>
    obtain ⟨a, ha, rfl⟩ := rw_ref rx
    simp only [dictGet] at h
    split at h
    · rename_i kvs e
      obtain ⟨vs, hv, rd, nd⟩ := R.obj l _ a e ha
      cases hk : keyW y with
      | none => rw [hk] at h; cases h
      | some k =>
        rw [hk] at h
        cases h
        rw [keyW_ok hk ry]
        exact ⟨a, _, rfl, DGet.k hv, rd.val.1, rd.val.2⟩
    · rename_i kvs e
      obtain ⟨vs, hv, rd, nd⟩ := R.obj l _ a e ha
      cases hk : keysW y with
      | none => rw [hk] at h; cases h
      | some k =>
        rw [hk] at h
        cases h
        obtain ⟨b, rfl, eb⟩ := keysW_ok hk ry
        exact ⟨a, _, rfl, DGet.t hv eb, rd.val.1, rd.val.2⟩
    · cases h
  | _ => cases h
def DispS (X : Cx) (T : Tab) (nm : Str) (d : Disp) : Prop := ∀ c F C, getD c d = some F → T.cls c = some C → ∃ f k n m, F = arity n m ∧ FnE X.prog X.w X.K X.mg X.base T k f n m ∧ Room (k + 1) X.A ∧
  PySem.W.findIn X.K (.ref C) nm = some (some (.ref f)) ∧ PySem.W.isFn X.K (.ref f) = true ∧ PySem.W.fnIn X.K f = true ∧ PySem.W.noSeq X.K C = true
theorem DispS.nil {nm} : DispS X T nm [] := fun c F C h => by cases h
theorem DispS.cons {nm c f k n m} {d : Disp} (F : FnE X.prog X.w X.K X.mg X.base T k f n m) (hr : Room (k + 1) X.A) (h : ∀ C, T.cls c = some C → PySem.W.findIn X.K (.ref C) nm = some (some (.ref f)) ∧ PySem.W.isFn X.K (.ref f) = true ∧ PySem.W.fnIn X.K f = true ∧ PySem.W.noSeq X.K C = true)
    (r : DispS X T nm d) : DispS X T nm ((c, arity n m) :: d) := fun c' F' C hg hc => by
  simp only [getD] at hg
  split at hg
  · rename_i e
    subst e
    cases hg
    exact ⟨f, k, n, m, rfl, F, hr, h C hc⟩
  · exact r c' F' C hg hc
theorem inst_at {pins s σ H a C dx vs} (I : Inv X pins σ H s) (hH : H a = some (.ins C dx vs)) : ∃ od, PySem.W.InstAt s.heap a (PySem.W.instObj C dx) C (some od) := by
  obtain ⟨mA, O, _⟩ := ins_get I.hok hH
  obtain ⟨od, i, _⟩ := O.look
  exact ⟨od, i⟩
def ownF (d : Disp) (g : G) (x : W) : Option FN := match insAt g x with
  | some (_, c, _) => getD c d
  | none => none
theorem ownF_ok {nm d ρ H g x vx F} (hd : DispS X T nm d) (R : RG T ρ H g) (rx : RW T ρ H x vx) (h : ownF d g x = some F) : ∃ a C dx vs f k n m, vx = .ref a ∧ H a = some (.ins C dx vs) ∧ F = arity n m ∧ FnE X.prog X.w X.K X.mg X.base T k f n m ∧ Room (k + 1) X.A ∧
  PySem.W.findIn X.K (.ref C) nm = some (some (.ref f)) ∧ PySem.W.isFn X.K (.ref f) = true ∧ PySem.W.fnIn X.K f = true ∧ PySem.W.noSeq X.K C = true := by
  unfold ownF at h
  cases hx : insAt g x with
  | none => rw [hx] at h; cases h
  | some q =>
    obtain ⟨l, c, fs⟩ := q
    rw [hx] at h
    obtain ⟨a, C, dx, vs, rfl, ha, rfl, hc, cw, hH, rf, hg⟩ := insAt_ok R rx hx
    obtain ⟨f, k, n, m, e1, e2, e3, e4⟩ := hd c F C h hc
    exact ⟨a, C, dx, vs, f, k, n, m, rfl, hH, e1, e2, e3, e4⟩
def ixSeq (ws : List W) (y : W) (g : G) : Out W := match y with
  | .int i => match atI ws i with
    | some w => .ok w g
    | none => .bad
  | _ => .bad
theorem rws_atI {ρ H ws vs i w} (r : RWs T ρ H ws vs) (h : atI ws i = some w) : ∃ v, atI vs i = some v ∧ RW T ρ H w v := by
  unfold atI at h ⊢
  rw [← r.length]
  cases hj : ixN ws.length i with
  | none => rw [hj] at h; cases h
  | some j =>
    rw [hj] at h
    exact r.get h
theorem ixSeq_inv {ws y g Wx σ ρ H Q} (h : EndR (RWr T) T Wx σ ρ H Q (ixSeq ws y g)) : ∃ i w, y = .int i ∧ atI ws i = some w ∧ EndR (RWr T) T Wx σ ρ H Q (.ok w g) := by
  unfold ixSeq at h
  split at h
  · split at h
    · rename_i i w e
      exact ⟨_, _, rfl, e, h⟩
    · exact h.elim
  · exact h.elim
def subW (d : Disp) : F2 := fun x y g => match x with
  | .tup ws => ixSeq ws y g
  | .str z => match y with
    | .int i => if fits z.length then match atI z.cps.toList i with
      | some c => .ok (.str ⟨#[c]⟩) g
      | none => .bad else .bad
    | _ => .bad
  | x => match listAt g x with
    | some ws => ixSeq ws y g
    | none => match dictGet g x y with
      | some (some w) => .ok w g
      | some none => .bad
      | none => match ownF d g x with
        | some F => F [x, y] g
        | none => .bad
theorem o_sub_own {d : Disp} (hK : X.K = T.K) (hu : X.A.units + 1 < cLine) (tk : Takes X Wx) (hd : DispS X T "__getitem__" d) : IxO X T Wx (subW d) := by
  intro value slice hs ht pins s σ H ρ g x y vx vy v u Q I R rx ry r1 r2 e
  have lst : listAt g x ≠ none → EndR (RWr T) T Wx σ ρ H Q (match listAt g x with | some ws => ixSeq ws y g | none => .bad) → wpAny (model X.prog X.w) X.A (subscriptTail value slice v u) (EP X pins σ Q) X.xe s := fun hn e => by
    cases hl : listAt g x with
    | none => exact absurd hl hn
    | some ws =>
      rw [hl] at e
      obtain ⟨i, w, ey, ha, e2⟩ := ixSeq_inv e
      obtain ⟨l, a, vs, rfl, _, _, rfl, hH, rr⟩ := listAt_ok R rx hl
      obtain ⟨z, hz, rz⟩ := rws_atI rr ha
      exact ix_list value slice pins s σ H _ _ v u Q I r1 r2 ⟨a, vs, i, z, rfl, rw_int (by rw [← ey]; exact ry), by rw [hK]; exact SqL.of hH, hz, endok R rz e2⟩ (hs v u)
  have rest : EndR (RWr T) T Wx σ ρ H Q (match listAt g x with
    | some ws => ixSeq ws y g
    | none => match dictGet g x y with
      | some (some w) => .ok w g
      | some none => .bad
      | none => match ownF d g x with
        | some F => F [x, y] g
        | none => .bad) → wpAny (model X.prog X.w) X.A (subscriptTail value slice v u) (EP X pins σ Q) X.xe s := fun e => by
    cases hl : listAt g x with
    | some ws => exact lst (by rw [hl]; simp) (by rw [hl] at e ⊢; exact e)
    | none =>
      rw [hl] at e
      dsimp only at e
      cases hg : dictGet g x y with
      | some o =>
        rw [hg] at e
        cases o with
        | none => exact e.elim
        | some w =>
          obtain ⟨a, ov, rfl, dg, h1, _⟩ := dictGet_ok R rx ry hg
          obtain ⟨z, rfl, rz⟩ := h1 w rfl
          obtain rfl : v = Value.ref a := r1
          exact tail_any (dict_typeIs I dg) PySem.F.slot_dict_getitem.lookup (d_getItem hu I dg r2 fun w' s3 I3 rw' => ⟨z, H, I3, rw', endok R rz e⟩) (hs _ u)
      | none =>
        rw [hg] at e
        dsimp only at e
        cases ho : ownF d g x with
        | none => rw [ho] at e; exact e.elim
        | some F =>
          rw [ho] at e
          obtain ⟨a, C, dx, vs, f, k, n, m, rfl, hH, rfl, F, hr, h1, h2, h3, h4⟩ := ownF_ok hd R rx ho
          obtain rfl : v = Value.ref a := r1
          obtain ⟨od, J⟩ := inst_at I hH
          obtain ⟨mm, fr⟩ := I.fr
          exact PySem.W.sub_K fr I.ok.mod.kin J h1 h3 h2 (run_at (A := X.A.in1) (us := [.ref a, u]) (vs := [.ref a, vy]) F hr.in1 I.env0.in1 tk I R (.cons rx (.cons ry .nil)) (.cons rfl (.cons r2 .nil)) e) (ht a u)
  cases x with
  | tup ws =>
    obtain ⟨i, w, rfl, ha, e⟩ := ixSeq_inv e
    obtain ⟨a, vs, rfl, hH, rr⟩ := rw_tup rx
    obtain ⟨z, hz, rz⟩ := rws_atI rr ha
    exact ix_tup value slice pins s σ H _ _ v u Q I r1 r2 ⟨a, vs, i, z, rfl, rw_int ry, by rw [hK]; exact SqT.of hH, hz, endok R rz e⟩ (hs v u)
  | str z =>
    simp only [subW] at e
    split at e
    · rename_i i
      split at e
      · rename_i hf
        split at e
        · rename_i c hc
          exact ix_str value slice pins s σ H _ _ v u Q I r1 r2 ⟨z, i, c, rw_str rx, rw_int ry, fits_le hf, hc, endok R rws e⟩ (hs v u)
        · exact e.elim
      · exact e.elim
    · exact e.elim
  | ref l => exact rest e
  | _ => exact rest e
def toV : W → V
  | .bl b => .bl b
  | .int i => .int i
  | .str s => .str s
  | _ => .non
def flatW : W → Bool
  | .non => true
  | .bl _ => true
  | .int _ => true
  | .str _ => true
  | _ => false
theorem toV_ok {ρ H x v} (h : flatW x = true) (r : RW T ρ H x v) : v = toV x ∧ flatV v = true := by
  cases x with
  | non => rw [rw_non r]; exact ⟨rfl, rfl⟩
  | bl b => rw [rw_bl r]; exact ⟨rfl, rfl⟩
  | int i => rw [rw_int r]; exact ⟨rfl, rfl⟩
  | str s => rw [rw_str r]; exact ⟨rfl, rfl⟩
  | _ => cases h
theorem toVs_ok {ρ H} : ∀ {ws : List W} {vs : List V}, ws.all flatW = true → RWs T ρ H ws vs → vs = ws.map toV ∧ vs.all flatV = true
  | [], vs, _, r => by simp only [RWs] at r; subst r; exact ⟨rfl, rfl⟩
  | w :: ws, vs, h, r => by
    simp only [RWs] at r
    obtain ⟨v, q, rfl, r1, r2⟩ := r
    rw [List.all_cons, Bool.and_eq_true] at h
    obtain ⟨e1, e2⟩ := toV_ok h.1 r1
    obtain ⟨e3, e4⟩ := toVs_ok h.2 r2
    rw [List.all_cons, e2, e4, e3, e1]
    exact ⟨rfl, rfl⟩
def inL (x : W) (ws : List W) : Bool := ws.any fun y => eqV (toV y) (toV x)
/-- in: lists and tuples of flat things, lists of data, texts, dicts, own classes -/
def inW (d : Disp) : F2 := fun x y g => match y with
  | .str t => match x with
    | .str s => .ok (.bl (!(Builtin.Str.occurrences t s 0 t.length 1).isEmpty)) g
    | _ => .bad
  | y => match seqAt g y with
    | some ws => if flatW x && ws.all flatW then .ok (.bl (inL x ws)) g else match toD g x, toD g y with
      | some a, some (.list ds) => if SeqAt.shaped a && SeqAt.shaped (.list ds) then .ok (.bl (ds.any fun z => PyData.eqv z a)) g else .bad
      | _, _ => .bad
    | none => match dictGet g y x with
      | some o => .ok (.bl o.isSome) g
      | none => match ownF d g y with
        | some F => match F [y, x] g with
          | .ok (.bl b) g => .ok (.bl b) g
          | .ex c fs g => .ex c fs g
          | _ => .bad
        | none => .bad
/-- the answer turned round (or not) -/
def negW (neg : Bool) (r : Out W) : Out W := match r with
  | .ok (.bl b) g => .ok (.bl (b != neg)) g
  | .ok _ _ => .bad
  | .ex c fs g => .ex c fs g
  | .bad => .bad
theorem negW_end {neg Wx σ ρ H Q} {r : Out W} (h : EndR (RWr T) T Wx σ ρ H Q (negW neg r)) : EndR (RWr T) T Wx σ ρ H (fun v H' => ∃ b, v = .bl b ∧ Q (.bl (b != neg)) H') r := by
  cases r with
  | ok a g =>
    cases a with
    | bl b => exact fun ρ' H' v gr R r => ⟨b, rw_bl r, h ρ' H' _ gr R rwb⟩
    | _ => exact h.elim
  | ex c fs g => exact h
  | bad => exact h
theorem in_any (neg : Bool) {d : Disp} (hK : X.K = T.K) (hu : X.A.units + 65 < cLine) (tk : Takes X Wx) (hd : DispS X T "__contains__" d) : OpO X T Wx (compareOp (if neg then .NotIn else .In)) (fun x y g => negW neg (inW d x y g)) := by
  intro pins s σ H ρ g x y vx vy v u Q I R rx ry r1 r2 e0
  have e := negW_end e0
  have fin : ∀ b b' : Bool, (∀ Q' : VK, EndR (RWr T) T Wx σ ρ H Q' (.ok (.bl b) g) → Q' (.bl b) H) := fun b _ Q' e => endok R rwb e
  have rest : EndR (RWr T) T Wx σ ρ H (fun v H' => ∃ b, v = .bl b ∧ Q (.bl (b != neg)) H') (match seqAt g y with
    | some ws => if flatW x && ws.all flatW then .ok (.bl (inL x ws)) g else match toD g x, toD g y with
      | some a, some (.list ds) => if SeqAt.shaped a && SeqAt.shaped (.list ds) then .ok (.bl (ds.any fun z => PyData.eqv z a)) g else .bad
      | _, _ => .bad
    | none => match dictGet g y x with
      | some o => .ok (.bl o.isSome) g
      | none => match ownF d g y with
        | some F => match F [y, x] g with
          | .ok (.bl b) g => .ok (.bl b) g
          | .ex c fs g => .ex c fs g
          | _ => .bad
        | none => .bad) → wpAny (model X.prog X.w) X.A (compareOp (if neg then .NotIn else .In) v u) (EP X pins σ Q) X.xe s := fun e => by
    cases hs : seqAt g y with
    | some ws =>
      rw [hs] at e
      dsimp only at e
      obtain ⟨a, vs, rfl, hq, rr⟩ := seqAt_ok R ry hs
      split at e
      · rename_i hf
        rw [Bool.and_eq_true] at hf
        obtain ⟨e1, e2⟩ := toV_ok hf.1 rx
        obtain ⟨e3, e4⟩ := toVs_ok hf.2 rr
        have ei : inV vx vs = inL x ws := by
          rw [e1, e3]
          unfold inV inL
          rw [List.any_map]
          rfl
        obtain ⟨b, hb, q⟩ := endok R rwb e
        cases hb
        cases neg with
        | false => exact op_in_seq pins s σ H _ _ v u Q I r1 r2 ⟨a, vs, rfl, by rw [hK]; exact hq, e2, e4, by rw [ei]; simpa using q⟩
        | true => exact op_notIn_seq pins s σ H _ _ v u Q I r1 r2 ⟨a, vs, rfl, by rw [hK]; exact hq, e2, e4, by rw [ei]; simpa using q⟩
      · split at e
        · rename_i d1 ds h1 h2
          split at e
          · rename_i hsh
            rw [Bool.and_eq_true] at hsh
            have D1 := toD_ok R h1 rx
            have D2 := toD_ok R h2 ry
            obtain ⟨b, hb, q⟩ := endok R rwb e
            cases hb
            cases neg with
            | false => exact op_inD hu pins s σ H _ _ v u Q I r1 r2 ⟨d1, ds, by rw [hK]; exact D1, by rw [hK]; exact D2, hsh.1, hsh.2, by simpa using q⟩
            | true => exact op_notInD hu pins s σ H _ _ v u Q I r1 r2 ⟨d1, ds, by rw [hK]; exact D1, by rw [hK]; exact D2, hsh.1, hsh.2, by simpa using q⟩
          · exact e.elim
        · exact e.elim
    | none =>
      rw [hs] at e
      dsimp only at e
      cases hg : dictGet g y x with
      | some o =>
        rw [hg] at e
        obtain ⟨a, ov, rfl, dg, h1, h2⟩ := dictGet_ok R ry rx hg
        obtain rfl : u = Value.ref a := r2
        have eo : ov.isSome = o.isSome := by
          cases o with
          | none => rw [h2 rfl]; rfl
          | some w => obtain ⟨z, rfl, _⟩ := h1 w rfl; rfl
        obtain ⟨b, hb, q⟩ := endok R rwb e
        cases hb
        cases neg with
        | false => exact d_in (by omega) I dg r1 fun s3 I3 => ⟨.bl ov.isSome, H, I3, rfl, by rw [eo]; simpa using q⟩
        | true => exact d_notIn (by omega) I dg r1 fun s3 I3 => ⟨.bl (!ov.isSome), H, I3, rfl, by rw [eo]; simpa using q⟩
      | none =>
        rw [hg] at e
        dsimp only at e
        cases ho : ownF d g y with
        | none => rw [ho] at e; exact e.elim
        | some F =>
          rw [ho] at e
          obtain ⟨a, C, dx, vs, f, k, n, m, rfl, hH, rfl, F, hr, h1, h2, h3, h4⟩ := ownF_ok hd R ry ho
          obtain rfl : u = Value.ref a := r2
          obtain ⟨od, J⟩ := inst_at I hH
          obtain ⟨mm, fr⟩ := I.fr
          have e' : EndR (RWr T) T Wx σ ρ H (fun v H' => ∃ b, v = .bl b ∧ Q (.bl (b != neg)) H') (arity n m [y, x] g) := by
            dsimp only at e
            cases hm : arity n m [y, x] g with
            | ok a g' =>
              rw [hm] at e
              cases a with
              | bl b => exact e
              | _ => exact e.elim
            | ex c fs g' => rw [hm] at e; exact e
            | bad => rw [hm] at e; exact e.elim
          have run := run_at (A := X.A) (us := [.ref a, v]) (vs := [.ref a, vx]) F (hr.mono (by omega)) I.env0 tk I R (.cons ry (.cons rx .nil)) (.cons rfl (.cons r1 .nil)) e'
          cases neg with
          | false =>
            refine PySem.W.in_K fr I.ok.mod.kin J h1 h2 (thn run fun r s1 ⟨z, H1, I1, rz, b, hb, q⟩ => ?_)
            subst hb
            cases rz
            exact wpAny_truthy_bool ⟨.bl b, H1, I1, rfl, by simpa using q⟩
          | true =>
            refine PySem.W.notIn_K fr I.ok.mod.kin J h1 h2 (thn run fun r s1 ⟨z, H1, I1, rz, b, hb, q⟩ => ?_)
            subst hb
            cases rz
            exact wpAny_truthy_bool ⟨.bl (!b), H1, I1, rfl, by simpa using q⟩
  cases y with
  | str t =>
    simp only [inW] at e
    split at e
    · obtain ⟨b, hb, q⟩ := endok R rwb e
      cases hb
      cases neg with
      | false => exact op_in_str pins s σ H _ _ v u Q I r1 r2 ⟨_, t, rw_str rx, rw_str ry, by simpa using q⟩
      | true => exact op_notin_str pins s σ H _ _ v u Q I r1 r2 ⟨_, t, rw_str rx, rw_str ry, by simpa using q⟩
    · exact e.elim
  | _ => exact rest e
def inF (d : Disp) : F2 := fun x y g => negW false (inW d x y g)
def notinF (d : Disp) : F2 := fun x y g => negW true (inW d x y g)
theorem o_in {d : Disp} (hK : X.K = T.K) (hu : X.A.units + 65 < cLine) (tk : Takes X Wx) (hd : DispS X T "__contains__" d) : OpO X T Wx (compareOp .In) (inF d) := in_any false hK hu tk hd
theorem o_notin {d : Disp} (hK : X.K = T.K) (hu : X.A.units + 65 < cLine) (tk : Takes X Wx) (hd : DispS X T "__contains__" d) : OpO X T Wx (compareOp .NotIn) (notinF d) := in_any true hK hu tk hd
def tB2 (r : Out W) (k : Bool → G → Out W) : Out W := r.bind fun x g => match x with
  | .bl b => k b g
  | _ => .bad
def eChain (f f' : F2) (a b c : ED) : ED := fun σ g => (a σ g).bind fun x g => (b σ g).bind fun y g => (f x y g).bind fun z g => match z with
  | .bl true => (c σ g).bind fun w g => f' y w g
  | .bl false => .ok (.bl false) g
  | _ => .bad
theorem lift_chain {op op' : CmpOp} {f f' : F2} {a b c : Expr} {ma mb mc : ED} (ho : OpO X T Wx (compareOp op) f) (ho' : OpO X T Wx (compareOp op') f') (ha : PE X a (LE T Wx ma)) (hb : PE X b (LE T Wx mb)) (hc : PE X c (LE T Wx mc)) {pins : List (Addr × Obj)} {s : Shared} {σ : St} {H : Hp} {Q : VK} (I : Inv X pins σ H s)
    (h : LE T Wx (eChain f f' ma mb mc) σ H Q) : wpAny (model X.prog X.w) X.A (eval a X.env) (fun v s₁ => wpAny (model X.prog X.w) X.A (eval b X.env) (fun u s₂ => wpAny (model X.prog X.w) X.A (compareOp op v u) (fun d s3 => ∃ k : Bool, d = .bool k ∧
      if k then wpAny (model X.prog X.w) X.A (eval c X.env) (fun w' s4 => wpAny (model X.prog X.w) X.A (compareOp op' u w') (EP X pins σ Q) X.xe s4) X.xe s3 else EP X pins σ Q (.bool false) s3) X.xe s₂) X.xe s₁) X.xe s := by
  obtain ⟨ρ, σw, g, hs, hg, he⟩ := h
  refine thn (ha.run pins s σ H _ I ⟨ρ, σw, g, hs, hg, EndR.bind (Q' := fun vx H1 => ∃ ρ1 x g1, RS T ρ1 H1 σw σ ∧ RG T ρ1 H1 g1 ∧ RW T ρ1 H1 x vx ∧ EndR (RWr T) T Wx σ ρ1 H1 Q ((mb σw g1).bind fun y g => (f x y g).bind fun z g => match z with
    | .bl true => (mc σw g).bind fun w g => f' y w g
    | .bl false => .ok (.bl false) g
    | _ => .bad)) he fun x g1 ρ1 H1 vx gr1 R1 rx he1 => ⟨ρ1, x, g1, hs.mono gr1 _ _, R1, rx, he1⟩⟩) fun v s1 ⟨vx, H1, I1, r1, ρ1, x, g1, hs1, R1, rx, he1⟩ => ?_
  refine thn (hb.run pins s1 σ H1 _ I1 ⟨ρ1, σw, g1, hs1, R1, EndR.bind (Q' := fun vy H2 => ∃ ρ2 y g2, RS T ρ2 H2 σw σ ∧ RG T ρ2 H2 g2 ∧ RW T ρ2 H2 x vx ∧ RW T ρ2 H2 y vy ∧ EndR (RWr T) T Wx σ ρ2 H2 Q ((f x y g2).bind fun z g => match z with
    | .bl true => (mc σw g).bind fun w g => f' y w g
    | .bl false => .ok (.bl false) g
    | _ => .bad)) he1 fun y g2 ρ2 H2 vy gr2 R2 ry he2 => ⟨ρ2, y, g2, hs1.mono gr2 _ _, R2, rx.mono gr2 _ _, ry, he2⟩⟩) fun u s2 ⟨vy, H2, I2, r2, ρ2, y, g2, hs2, R2, rx2, ry, he2⟩ => ?_
  refine thn (ho pins s2 σ H2 ρ2 g2 x y vx vy v u _ I2 R2 rx2 ry r1 r2 (EndR.bind (Q' := fun vz H3 => ∃ k, vz = .bl k ∧ ∃ ρ3 g3, RS T ρ3 H3 σw σ ∧ RG T ρ3 H3 g3 ∧ RW T ρ3 H3 y vy ∧ EndR (RWr T) T Wx σ ρ3 H3 Q (if k then (mc σw g3).bind fun w g => f' y w g else .ok (.bl false) g3)) he2
    fun z g3 ρ3 H3 vz gr3 R3 rz he3 => ?_)) fun d s3 ⟨vz, H3, I3, r3, k, hk, ρ3, g3, hs3, R3, ry3, he3⟩ => ?_
  · cases z with
    | bl k =>
      refine ⟨k, rw_bl rz, ρ3, g3, hs2.mono gr3 _ _, R3, ry.mono gr3 _ _, ?_⟩
      cases k with
      | true => exact he3
      | false => exact he3
    | _ => exact he3.elim
  · subst hk
    cases r3
    refine ⟨k, rfl, ?_⟩
    cases k with
    | false => exact ⟨.bl false, H3, I3, rfl, endok R3 rwb he3⟩
    | true =>
      simp only [if_true] at he3 ⊢
      refine thn (hc.run pins s3 σ H3 _ I3 ⟨ρ3, σw, g3, hs3, R3, EndR.bind (Q' := fun vw H4 => ∃ ρ4 w g4, RG T ρ4 H4 g4 ∧ RW T ρ4 H4 y vy ∧ RW T ρ4 H4 w vw ∧ EndR (RWr T) T Wx σ ρ4 H4 Q (f' y w g4)) he3 fun w g4 ρ4 H4 vw gr4 R4 rw4 he4 => ⟨ρ4, w, g4, R4, ry3.mono gr4 _ _, rw4, he4⟩⟩)
        fun w' s4 ⟨vw, H4, I4, r4, ρ4, w, g4, R4, ry4, rw4, he4⟩ => ?_
      exact ho' pins s4 σ H4 ρ4 g4 y w vy vw u w' Q I4 R4 ry4 rw4 r2 r4 he4
variable {a b c : Expr} {ma mb mc : ED} {pos : Pos}
theorem le_chain {op op' : CmpOp} {f f' : F2} (ho : OpO X T Wx (compareOp op) f) (ho' : OpO X T Wx (compareOp op') f') (ha : PE X a (LE T Wx ma)) (hb : PE X b (LE T Wx mb)) (hc : PE X c (LE T Wx mc))
    (hm : lastMarks [op, op'] [b, c] = false := by with_unfolding_all rfl) : PE X (.Compare a [op, op'] [b, c] pos) (LE T Wx (eChain f f' ma mb mc)) := by
  refine ⟨fun pins s σ H Q I h => ?_⟩
  refine Compare_chain (thn (lift_chain ho ho' ha hb hc I h) fun v s1 h1 => chain_link (thn h1 fun u s2 h2 => thn h2 fun d s3 ⟨k, e, q⟩ => ?_)) hm
  subst e
  refine wpAny_truthy_bool ?_
  cases k with
  | false => exact ite_ff q
  | true => exact ite_tt (chain_last (by simpa using q))
theorem lt_chain {op op' : CmpOp} {f f' : F2} (ho : OpO X T Wx (compareOp op) f) (ho' : OpO X T Wx (compareOp op') f') (ha : PE X a (LE T Wx ma)) (hb : PE X b (LE T Wx mb)) (hc : PE X c (LE T Wx mc))
    (hm : lastMarks [op, op'] [b, c] = false := by with_unfolding_all rfl) : PT X (.Compare a [op, op'] [b, c] pos) (LT T Wx (tVal (eChain f f' ma mb mc))) := by
  refine ⟨fun pins s σ H Q I h => ?_⟩
  have h := lift_tVal h
  refine isTrue_chain (thn (lift_chain ho ho' ha hb hc I h) fun v s1 h1 => test_link (thn h1 fun u s2 h2 => thn h2 fun d s3 ⟨k, e, q⟩ => ?_)) hm
  subst e
  refine wpAny_truthy_bool ?_
  cases k with
  | false =>
    obtain ⟨z, H3, I3, r3, k', e', q'⟩ := q
    subst e'
    cases r3
    exact ite_ff ⟨H3, I3, q'⟩
  | true =>
    simp only [if_true] at q
    refine ite_tt (test_last (thn q fun w' s4 h4 => thn h4 fun d' s5 ⟨z2, H5, I5, r5, k2, e2, q5⟩ => ?_))
    subst e2
    cases r5
    exact wpAny_truthy_bool ⟨H5, I5, q5⟩
end
end WL
end
section
set_option maxRecDepth 100000
namespace WL
open PySem PySem.Spec L2
open PyProof.Rows hiding St
set_option autoImplicit true
variable {T : Tab}
section
variable {X : Cx} {Wx : WX}
/-- a part of a slice: none, or an expression that gives an int -/
def optE (m : Option ED) : Sg → G → Out (Option Int) := match m with
  | none => fun _ g => .ok none g
  | some e => fun σ g => (e σ g).bind fun w g => match w with
    | .int i => .ok (some i) g
    | _ => .bad
def LO (T : Tab) (Wx : WX) (m : Option ED) : TO := fun σ H Q => ∃ ρ σw g, RS T ρ H σw σ ∧ RG T ρ H g ∧ EndR (fun _ _ (a b : Option Int) => a = b) T Wx σ ρ H Q (optE m σw g)
theorem lo_none : PO X none (LO T Wx none) := ⟨fun pins s σ H Q I h => po_none.run pins s σ H Q I (by
  obtain ⟨ρ, σw, g, hs, hg, he⟩ := h
  exact he ρ H none .refl hg rfl)⟩
theorem lo_some {e : Expr} {m : ED} (h : PE X e (LE T Wx m)) : PO X (some e) (LO T Wx (some m)) := ⟨fun pins s σ H Q I hw => (po_some h).run pins s σ H Q I (by
  obtain ⟨ρ, σw, g, hs, hg, he⟩ := hw
  refine ⟨ρ, σw, g, hs, hg, EndR.bind he fun x g1 ρ1 H1 vx gr1 R1 rx he1 => ?_⟩
  cases x with
  | int i => exact ⟨i, rw_int rx, he1 ρ1 H1 _ .refl R1 rfl⟩
  | _ => exact he1.elim)⟩
def cutW (ws : List W) (lo hi : Option Int) : List W := (ws.drop (HT.sIx ws.length 0 lo)).take (HT.sIx ws.length ws.length hi - HT.sIx ws.length 0 lo)
theorem rws_drop {ρ H} : ∀ {ws : List W} {vs : List V} (n : Nat), RWs T ρ H ws vs → RWs T ρ H (ws.drop n) (vs.drop n)
  | _, _, 0, r => by simpa using r
  | [], _, n + 1, r => by simp only [RWs] at r; subst r; simpa using RWs.nil
  | w :: ws, _, n + 1, r => by
    simp only [RWs] at r
    obtain ⟨v, q, rfl, _, r2⟩ := r
    simpa using rws_drop n r2
theorem rws_take {ρ H} : ∀ {ws : List W} {vs : List V} (n : Nat), RWs T ρ H ws vs → RWs T ρ H (ws.take n) (vs.take n)
  | _, _, 0, r => by simpa using RWs.nil
  | [], _, n + 1, r => by simp only [RWs] at r; subst r; simpa using RWs.nil
  | w :: ws, _, n + 1, r => by
    simp only [RWs] at r
    obtain ⟨v, q, rfl, r1, r2⟩ := r
    simpa using RWs.cons r1 (rws_take n r2)
theorem rws_cut {ρ H ws vs lo hi} (r : RWs T ρ H ws vs) : RWs T ρ H (cutW ws lo hi) (cutV vs lo hi) := by
  unfold cutW cutV
  rw [← r.length]
  exact rws_take _ (rws_drop _ r)
def sliceF (x : W) (lo hi : Option Int) (g : G) : Out W := match x with
  | .tup ws => .ok (.tup (cutW ws lo hi)) g
  | x => match listAt g x with
    | some ws => .ok (.ref g.length) (g ++ [.lst (cutW ws lo hi)])
    | none => .bad
def eSlice (a : ED) (lo hi : Option ED) : ED := fun σ g => (a σ g).bind fun x g => (optE lo σ g).bind fun l g => (optE hi σ g).bind fun u g => sliceF x l u g
theorem cutV_whole {xs : List V} {lo hi : Option Int} (h : HT.sIx xs.length 0 lo = 0 ∧ HT.sIx xs.length xs.length hi = xs.length) : cutV xs lo hi = xs := by
  unfold cutV
  rw [h.1, h.2]
  simp
theorem cutW_whole {xs : List W} {lo hi : Option Int} (h : HT.sIx xs.length 0 lo = 0 ∧ HT.sIx xs.length xs.length hi = xs.length) : cutW xs lo hi = xs := by
  unfold cutW
  rw [h.1, h.2]
  simp
theorem slice_lift {ρ H g x vx lo hi Wx σ Q} (R : RG T ρ H g) (rx : RW T ρ H x vx) (e : EndR (RWr T) T Wx σ ρ H Q (sliceF x lo hi g)) : rSlL T.K vx lo hi H Q ∨ rSlA T.K vx lo hi H Q := by
  have lst : EndR (RWr T) T Wx σ ρ H Q (match listAt g x with | some ws => .ok (.ref g.length) (g ++ [.lst (cutW ws lo hi)]) | none => .bad) → rSlL T.K vx lo hi H Q := fun e => by
    cases hl : listAt g x with
    | none => rw [hl] at e; exact e.elim
    | some ws =>
      rw [hl] at e
      obtain ⟨l, a, vs, e1, _, _, rfl, hH, rr⟩ := listAt_ok R rx hl
      exact ⟨a, vs, rfl, SqL.of hH, fun p hp => e _ _ _ (grow_new hp) (new_lst R hp (rws_cut rr)) (ref_new R)⟩
  cases x with
  | tup ws =>
    obtain ⟨a, vs, rfl, hH, rr⟩ := rw_tup rx
    refine .inr ⟨a, vs, rfl, SqT.of hH, fun h => ?_, fun h p hp => ?_⟩
    · have e : EndR (RWr T) T Wx σ ρ H Q (.ok (.tup (cutW ws lo hi)) g) := e
      rw [cutW_whole (by rw [rr.length]; exact h)] at e
      exact endok R (rwt hH rr) e
    · exact e ρ _ _ (grow_fresh hp) (R.extra hp) (tup_new hp (rws_cut rr))
  | _ => exact .inl (lst e)
theorem le_slice {a : Expr} {lo hi : Option Expr} {ma : ED} {ml mh : Option ED} {p2 pos : Pos} (hK : X.K = T.K) (ha : PE X a (LE T Wx ma)) (hl : PO X lo (LO T Wx ml)) (hh : PO X hi (LO T Wx mh)) : PE X (.Subscript a (.Slice lo hi none p2) pos) (LE T Wx (eSlice ma ml mh)) :=
  (pe_slice (SlR.or sl_list sl_tupA) ha hl hh).imp fun σ H Q h => by
    obtain ⟨ρ, σw, g, hs, hg, he⟩ := h
    refine ⟨ρ, σw, g, hs, hg, EndR.bind he fun x g1 ρ1 H1 vx gr1 R1 rx he1 => ?_⟩
    refine ⟨ρ1, σw, g1, hs.mono gr1 _ _, R1, EndR.bind he1 fun l g2 ρ2 H2 vl gr2 R2 rl he2 => ?_⟩
    refine ⟨ρ2, σw, g2, hs.mono (gr1.trans gr2) _ _, R2, EndR.bind he2 fun u g3 ρ3 H3 vu gr3 R3 ru he3 => ?_⟩
    subst rl ru
    rw [hK]
    exact slice_lift R3 (rx.mono (gr2.trans gr3) _ _) he3
def eRev (a : ED) : ED := fun σ g => (a σ g).bind fun x g => match listAt g x with
  | some ws => .ok (.ref g.length) (g ++ [.lst ws.reverse])
  | none => .bad
theorem rws_rev {ρ H} : ∀ {ws : List W} {vs : List V}, RWs T ρ H ws vs → RWs T ρ H ws.reverse vs.reverse
  | [], _, r => by simp only [RWs] at r; subst r; simpa using RWs.nil
  | w :: ws, _, r => by
    simp only [RWs] at r
    obtain ⟨v, q, rfl, r1, r2⟩ := r
    rw [List.reverse_cons, List.reverse_cons]
    exact (rws_rev r2).append (.cons r1 RWs.nil)
theorem le_rev {a : Expr} {ma : ED} {k : Nat} {p1 p2 p3 pos : Pos} (hK : X.K = T.K) (ha : PE X a (LE T Wx ma)) : PE X (.Subscript a (.Slice none none (some (.UnaryOp .USub (.Constant (.int 1) k p1) p2)) p3) pos) (LE T Wx (eRev ma)) :=
  (pe_revL ha).imp fun σ H Q h => by
    obtain ⟨ρ, σw, g, hs, hg, he⟩ := h
    refine ⟨ρ, σw, g, hs, hg, EndR.bind he fun x g1 ρ1 H1 vx gr1 R1 rx he1 => ?_⟩
    cases hl : listAt g1 x with
    | none => rw [hl] at he1; exact he1.elim
    | some ws =>
      rw [hl] at he1
      obtain ⟨l, a, vs, e1, _, _, rfl, hH, rr⟩ := listAt_ok R1 rx hl
      exact ⟨a, vs, rfl, by rw [hK]; exact SqL.of hH, fun p hp => he1 _ _ _ (grow_new hp) (new_lst R1 hp (rws_rev rr)) (ref_new R1)⟩
def SetO (X : Cx) (T : Tab) (Wx : WX) (f : W → W → W → G → Out Unit) : Prop :=
  ∀ (pins : List (Addr × Obj)) (s : Shared) (σ : St) (H : Hp) (ρ : List Addr) (g : G) (o i w : W) (vo vi v : V) (ov iv u : Value) (Q : Hp → Prop), Inv X pins σ H s → RG T ρ H g → RW T ρ H o vo → RW T ρ H i vi → RW T ρ H w v → RelV vo ov → RelV vi iv → RelV v u →
    EndR (fun _ _ _ _ => True) T Wx σ ρ H (fun (_ : Unit) H' => Q H') (f o i w g) → wpAny (model X.prog X.w) X.A (setItem ov iv u) (fun _ s' => ∃ H', Inv X pins σ H' s' ∧ Q H') X.xe s
def gSubW (f : W → W → W → G → Out Unit) (o i : ED) : GD := fun w σ g => (o σ g).bind fun x g => (i σ g).bind fun y g => (f x y w g).bind fun _ g => .ok σ g
theorem lg_sub {f : W → W → W → G → Out Unit} {o i : Expr} {mo mi : ED} {pos : Pos} (hf : SetO X T Wx f) (ho : PE X o (LE T Wx mo)) (hi : PE X i (LE T Wx mi))
    (ha : ∀ v, assign (.Subscript o i pos) X.env v = (do
      let ov ← holding [v] (eval o X.env)
      let iv ← holding [v, ov] (eval i X.env)
      standAt pos
      holding [v, ov, iv] (setItem ov iv v)
      release [v, ov, iv] []) := by intro _; rfl) : PG X (.Subscript o i pos) (LG T Wx (gSubW f mo mi)) := by
  refine ⟨fun pins s σ H v u Q I r h => ?_⟩
  obtain ⟨ρ, w, σw, g, hw, hs, hg, he⟩ := h
  rw [ha]
  refine wpAny_bind (wpAny_holding (thn (ho.run pins s σ H _ I ⟨ρ, σw, g, hs, hg, EndR.bind (Q' := fun vx H1 => ∃ ρ1 x g1, RS T ρ1 H1 σw σ ∧ RG T ρ1 H1 g1 ∧ RW T ρ1 H1 w v ∧ RW T ρ1 H1 x vx ∧ EndR (RSr T) T Wx σ ρ1 H1 Q ((mi σw g1).bind fun y g => (f x y w g).bind fun _ g => .ok σw g)) he
    fun x g1 ρ1 H1 vx gr1 R1 rx he1 => ⟨ρ1, x, g1, hs.mono gr1 _ _, R1, hw.mono gr1 _ _, rx, he1⟩⟩) fun ov s1 ⟨vx, H1, I1, r1, ρ1, x, g1, hs1, R1, hw1, rx, he1⟩ => ?_))
  refine wpAny_bind (wpAny_holding (thn (hi.run pins s1 σ H1 _ I1 ⟨ρ1, σw, g1, hs1, R1, EndR.bind (Q' := fun vy H2 => ∃ ρ2 y g2, RS T ρ2 H2 σw σ ∧ RG T ρ2 H2 g2 ∧ RW T ρ2 H2 w v ∧ RW T ρ2 H2 x vx ∧ RW T ρ2 H2 y vy ∧ EndR (RSr T) T Wx σ ρ2 H2 Q ((f x y w g2).bind fun _ g => .ok σw g)) he1
    fun y g2 ρ2 H2 vy gr2 R2 ry he2 => ⟨ρ2, y, g2, hs1.mono gr2 _ _, R2, hw1.mono gr2 _ _, rx.mono gr2 _ _, ry, he2⟩⟩) fun iv s2 ⟨vy, H2, I2, r2, ρ2, y, g2, hs2, R2, hw2, rx2, ry, he2⟩ => ?_))
  refine wpAny_bind (wpAny_standAt (wpAny_bind (wpAny_holding (thn (hf pins s2 σ H2 ρ2 g2 x y w vx vy v ov iv u (fun H' => Q σ H') I2 R2 rx2 ry hw2 r1 r2 r (EndR.bind he2 fun _ g3 ρ3 H3 _ gr3 R3 _ he3 => he3 ρ3 H3 σ .refl R3 (hs2.mono gr3 _ _))) fun _ s3 ⟨H3, I3, q3⟩ => ?_))))
  exact wpAny_release ⟨σ, H3, I3, q3⟩
/-- a list at a place, a dict at a key, an own class -/
def setW (d : Disp) : W → W → W → G → Out Unit := fun x y w g => match x with
  | .ref l => match g[l]? with
    | some (.lst ws) => match y with
      | .int i => match ixN ws.length i with
        | some j => .ok () (g.set l (.lst (ws.set j w)))
        | none => .bad
      | _ => .bad
    | some (.dK kvs) => match keyW y with
      | some k => if fits kvs.length then .ok () (g.set l (.dK (putKW k w kvs))) else .bad
      | none => .bad
    | some (.dT kvs) => match keysW y with
      | some k => if fits kvs.length then .ok () (g.set l (.dT (putKW k w kvs))) else .bad
      | none => .bad
    | _ => match ownF d g (.ref l) with
      | some F => match F [.ref l, y, w] g with
        | .ok _ g => .ok () g
        | .ex c fs g => .ex c fs g
        | .bad => .bad
      | none => .bad
  | _ => .bad
theorem fits_lt {n : Nat} (h : fits n = true) : n < sizeLine := by
  have := of_decide_eq_true h
  rw [sizeLine_eq]
  omega
theorem rws_set {ρ H w v} (q : RW T ρ H w v) : ∀ {ws : List W} {vs : List V} (n : Nat), RWs T ρ H ws vs → RWs T ρ H (ws.set n w) (vs.set n v)
  | [], _, _, r => by simp only [RWs] at r; subst r; simpa using RWs.nil
  | a :: ws, _, 0, r => by
    simp only [RWs] at r
    obtain ⟨b, t, rfl, _, r2⟩ := r
    exact .cons q r2
  | a :: ws, _, n + 1, r => by
    simp only [RWs] at r
    obtain ⟨b, t, rfl, r1, r2⟩ := r
    exact .cons r1 (rws_set q n r2)
theorem o_set {d : Disp} (hu : X.A.units + 1 < cLine) (tk : Takes X Wx) (hd : DispS X T "__setitem__" d) : SetO X T Wx (setW d) := by
  intro pins s σ H ρ g o i w vo vi v ov iv u Q I R ro ri rw' r1 r2 r3 e
  cases o with
  | ref l =>
    obtain ⟨a, ha, rfl⟩ := rw_ref ro
    obtain rfl : ov = Value.ref a := r1
    obtain ⟨ob, hob, robj⟩ := R.there ha
    simp only [setW, hob] at e
    cases ob with
    | lst ws =>
      dsimp only at e
      obtain ⟨vs, hH, rr⟩ := robj
      split at e
      · rename_i k
        split at e
        · rename_i j hj
          have mt : Mutb (H a) := by rw [hH]; trivial
          refine set_list pins s σ H (.ref a) vi v _ iv u Q I rfl r2 r3 ⟨a, vs, k, j, rfl, rw_int ri, hH, by rw [← rr.length]; exact hj, ?_⟩
          exact e ρ _ () (grow_write mt) (R.write ha ⟨_, upd_same, rws_set (rw'.mono (grow_write mt) _ _) j (rr.mono (grow_write mt) _ _)⟩) trivial
        · exact e.elim
      · exact e.elim
    | dK kvs =>
      dsimp only at e
      obtain ⟨vs, hH, rd, nd⟩ := robj
      have mt : Mutb (H a) := by rw [hH]; trivial
      split at e
      · rename_i k hk
        split at e
        · rename_i hf
          rw [keyW_ok hk ri] at r2
          refine d_setItem hu I (DPut.k hH (by rw [← rd.length]; exact fits_lt hf)) r2 r3 fun s' I' => ⟨_, I', ?_⟩
          exact e ρ _ () (grow_write mt) (R.write ha ⟨_, upd_same, RD.put (rw'.mono (grow_write mt) _ _) (rd.mono (grow_write mt) _ _) nd, nodup_putKW nd⟩) trivial
        · exact e.elim
      · exact e.elim
    | dT kvs =>
      dsimp only at e
      obtain ⟨vs, hH, rd, nd⟩ := robj
      have mt : Mutb (H a) := by rw [hH]; trivial
      split at e
      · rename_i k hk
        split at e
        · rename_i hf
          obtain ⟨b, rfl, eb⟩ := keysW_ok hk ri
          refine d_setItem hu I (DPut.t hH eb (by rw [← rd.length]; exact fits_lt hf)) r2 r3 fun s' I' => ⟨_, I', ?_⟩
          exact e ρ _ () (grow_write mt) (R.write ha ⟨_, upd_same, RD.put (rw'.mono (grow_write mt) _ _) (rd.mono (grow_write mt) _ _) nd, nodup_putKW nd⟩) trivial
        · exact e.elim
      · exact e.elim
    | ins c fs =>
      dsimp only at e
      cases ho : ownF d g (.ref l) with
      | none => rw [ho] at e; exact e.elim
      | some F =>
        rw [ho] at e
        obtain ⟨a', C, dx, vs, f, k, n, m, ea, hH, rfl, F, hr, h1, h2, h3, h4⟩ := ownF_ok hd R ro ho
        cases ea
        obtain ⟨od, J⟩ := inst_at I hH
        obtain ⟨mm, fr⟩ := I.fr
        have e' : EndR (RWr T) T Wx σ ρ H (fun _ H' => Q H') (arity n m [.ref l, i, w] g) := by
          dsimp only at e
          cases hm : arity n m [.ref l, i, w] g with
          | ok a g' => rw [hm] at e; exact fun ρ' H' v gr R _ => e ρ' H' () gr R trivial
          | ex c fs g' => rw [hm] at e; exact e
          | bad => rw [hm] at e; exact e.elim
        refine PySem.W.ksp_setItem fr I.ok.mod.kin J h4 h1 h2 (thn (run_at (A := X.A) (us := [.ref a, iv, u]) (vs := [.ref a, vi, v]) F (hr.mono (by omega)) I.env0 tk I R (.cons ro (.cons ri (.cons rw' .nil))) (.cons rfl (.cons r2 (.cons r3 .nil))) e') fun r s1 ⟨z, H1, I1, rz, q⟩ => ?_)
        exact ⟨H1, I1, q⟩
  | _ => exact e.elim
def lenF : FN := fun ws g => match ws with
  | [.str s] => if fits s.length then .ok (.int s.length) g else .bad
  | [x] => match seqAt g x with
    | some xs => .ok (.int xs.length) g
    | none => .bad
  | _ => .bad
theorem rws1 {ρ H x vs} (h : RWs T ρ H [x] vs) : ∃ v, vs = [v] ∧ RW T ρ H x v := h.one
theorem rws2 {ρ H x y vs} (h : RWs T ρ H [x, y] vs) : ∃ v u, vs = [v, u] ∧ RW T ρ H x v ∧ RW T ρ H y u := by
  simp only [RWs] at h
  obtain ⟨v, _, rfl, a, u, _, rfl, b, rfl⟩ := h
  exact ⟨v, u, rfl, a, b⟩
theorem c_len (hK : X.K = T.K) : CallO X T Wx (.builtin "len") lenF := CallO.of ((call_len (X := X))) fun σ ρ H g xs vs Q R rx e => by
  unfold lenF at e
  split at e
  · rename_i s
    obtain ⟨v, rfl, r⟩ := rws1 rx
    cases rw_str r
    split at e
    · rename_i hf
      exact ⟨_, _, rfl, ⟨fits_le hf, rfl⟩, endok R rwi e⟩
    · exact e.elim
  · rename_i x hx
    obtain ⟨v, rfl, r⟩ := rws1 rx
    cases hs : seqAt g x with
    | none => rw [hs] at e; exact e.elim
    | some ws =>
      rw [hs] at e
      obtain ⟨a, us, rfl, hq, rr⟩ := seqAt_ok R r hs
      refine ⟨.ref a, us.length, rfl, ?_, by rw [← rr.length]; exact endok R rwi e⟩
      rw [hK]
      exact hq.elim (fun h => .inl ⟨us, h, rfl⟩) fun h => .inr ⟨us, h, rfl⟩
  · exact e.elim
def absF : FN := fun ws g => match ws with
  | [.int i] => .ok (.int (if i < 0 then -i else i)) g
  | _ => .bad
theorem c_abs : CallO X T Wx (.builtin "abs") absF := CallO.of call_abs fun σ ρ H g xs vs Q R rx e => by
  unfold absF at e
  split at e
  · obtain ⟨v, rfl, r⟩ := rws1 rx
    cases rw_int r
    exact ⟨_, rfl, endok R rwi e⟩
  · exact e.elim
def intF : FN := fun ws g => match ws with
  | [.int i] => .ok (.int i) g
  | _ => .bad
theorem c_int : CallO X T Wx (.type "int") intF := CallO.of call_int1 fun σ ρ H g xs vs Q R rx e => by
  unfold intF at e
  split at e
  · obtain ⟨v, rfl, r⟩ := rws1 rx
    cases rw_int r
    exact .inl ⟨_, rfl, endok R rwi e⟩
  · exact e.elim
def minF : FN := fun ws g => match ws with
  | [.int i, .int j] => .ok (.int (if j < i then j else i)) g
  | _ => .bad
def maxF : FN := fun ws g => match ws with
  | [.int i, .int j] => .ok (.int (if j > i then j else i)) g
  | _ => .bad
theorem c_min (hc : X.calm = true) : CallO X T Wx (.builtin "min") minF := CallO.of (call_min2 hc) fun σ ρ H g xs vs Q R rx e => by
  unfold minF at e
  split at e
  · obtain ⟨v, u, rfl, r1, r2⟩ := rws2 rx
    cases rw_int r1
    cases rw_int r2
    exact ⟨_, _, rfl, endok R rwi e⟩
  · exact e.elim
theorem c_max (hc : X.calm = true) : CallO X T Wx (.builtin "max") maxF := CallO.of (call_max2 hc) fun σ ρ H g xs vs Q R rx e => by
  unfold maxF at e
  split at e
  · obtain ⟨v, u, rfl, r1, r2⟩ := rws2 rx
    cases rw_int r1
    cases rw_int r2
    exact ⟨_, _, rfl, endok R rwi e⟩
  · exact e.elim
def strF : FN := fun ws g => match ws with
  | [.int i] => if i.natAbs < 2 ^ 64 then .ok (.str (toString i)) g else .bad
  | _ => .bad
theorem c_str : CallO X T Wx (.type "str") strF := CallO.of call_str_int fun σ ρ H g xs vs Q R rx e => by
  unfold strF at e
  split at e
  · rename_i i
    obtain ⟨v, rfl, r⟩ := rws1 rx
    cases rw_int r
    split at e
    · rename_i h
      refine ⟨_, rfl, ?_, endok R rws e⟩
      have := PySem.Flt.log2_lt_of (by decide : 0 < 64) h
      omega
    · exact e.elim
  · exact e.elim
/-- list(x), tuple(x) -/
def listF : FN := fun ws g => match ws with
  | [x] => match seqAt g x with
    | some xs => .ok (.ref g.length) (g ++ [.lst xs])
    | none => .bad
  | _ => .bad
theorem c_list (hK : X.K = T.K) : CallO X T Wx (.type "list") listF := CallO.of call_list_of fun σ ρ H g xs vs Q R rx e => by
  unfold listF at e
  split at e
  · rename_i x
    obtain ⟨v, rfl, r⟩ := rws1 rx
    cases hs : seqAt g x with
    | none => rw [hs] at e; exact e.elim
    | some ws =>
      rw [hs] at e
      obtain ⟨a, us, rfl, hq, rr⟩ := seqAt_ok R r hs
      rw [hK]
      exact ⟨a, us, rfl, hq, fun l hl => e _ _ _ (grow_new hl) (new_lst R hl rr) (ref_new R)⟩
  · exact e.elim
def tupleF : FN := fun ws g => match ws with
  | [.tup xs] => .ok (.tup xs) g
  | [x] => match listAt g x with
    | some xs => .ok (.tup xs) g
    | none => .bad
  | _ => .bad
theorem c_tuple (hK : X.K = T.K) : CallO X T Wx (.type "tuple") tupleF := CallO.of call_tuple_of fun σ ρ H g xs vs Q R rx e => by
  unfold tupleF at e
  split at e
  · obtain ⟨v, rfl, r⟩ := rws1 rx
    obtain ⟨a, us, rfl, hH, rr⟩ := rw_tup r
    rw [hK]
    exact ⟨a, us, rfl, .inr ⟨SqT.of hH, endok R r e⟩⟩
  · rename_i x _
    obtain ⟨v, rfl, r⟩ := rws1 rx
    cases hs : listAt g x with
    | none => rw [hs] at e; exact e.elim
    | some ws =>
      rw [hs] at e
      obtain ⟨l, a, us, _, _, _, rfl, hH, rr⟩ := listAt_ok R r hs
      rw [hK]
      exact ⟨a, us, rfl, .inl ⟨SqL.of hH, fun l hl => e ρ _ _ (grow_fresh hl) (R.extra hl) (tup_new hl rr)⟩⟩
  · exact e.elim
/-- all(xs), any(xs) of a list of True, False; sum(xs) of a list of ints -/
def boolsW : List W → Option (List Bool)
  | [] => some []
  | .bl b :: r => (boolsW r).map (b :: ·)
  | _ => none
def intsW : List W → Option (List Int)
  | [] => some []
  | .int b :: r => (intsW r).map (b :: ·)
  | _ => none
theorem boolsW_ok {ρ H} : ∀ {ws : List W} {vs : List V} {bs : List Bool}, boolsW ws = some bs → RWs T ρ H ws vs → vs = bs.map V.bl
  | [], vs, bs, h, r => by cases h; simp only [RWs] at r; subst r; rfl
  | w :: ws, vs, bs, h, r => by
    simp only [RWs] at r
    obtain ⟨v, q, rfl, r1, r2⟩ := r
    cases w with
    | bl b =>
      simp only [boolsW] at h
      cases hb : boolsW ws with
      | none => rw [hb] at h; cases h
      | some bs' => rw [hb] at h; cases h; rw [rw_bl r1, boolsW_ok hb r2]; rfl
    | _ => cases h
theorem intsW_ok {ρ H} : ∀ {ws : List W} {vs : List V} {bs : List Int}, intsW ws = some bs → RWs T ρ H ws vs → vs = bs.map V.int
  | [], vs, bs, h, r => by cases h; simp only [RWs] at r; subst r; rfl
  | w :: ws, vs, bs, h, r => by
    simp only [RWs] at r
    obtain ⟨v, q, rfl, r1, r2⟩ := r
    cases w with
    | int b =>
      simp only [intsW] at h
      cases hb : intsW ws with
      | none => rw [hb] at h; cases h
      | some bs' => rw [hb] at h; cases h; rw [rw_int r1, intsW_ok hb r2]; rfl
    | _ => cases h
def lstB (f : List Bool → W) : FN := fun ws g => match ws with
  | [x] => match listAt g x with
    | some xs => match boolsW xs with
      | some bs => .ok (f bs) g
      | none => .bad
    | none => .bad
  | _ => .bad
theorem lstB_inv {f ρ H g xs vs Wx σ Q} (R : RG T ρ H g) (rx : RWs T ρ H xs vs) (e : EndR (RWr T) T Wx σ ρ H Q (lstB f xs g)) : ∃ a bs, vs = [V.ref a] ∧ H a = some (.lst (bs.map V.bl)) ∧ EndR (RWr T) T Wx σ ρ H Q (.ok (f bs) g) := by
  unfold lstB at e
  split at e
  · rename_i x
    obtain ⟨v, rfl, r⟩ := rws1 rx
    cases hs : listAt g x with
    | none => rw [hs] at e; exact e.elim
    | some ws =>
      rw [hs] at e
      obtain ⟨l, a, us, _, _, _, rfl, hH, rr⟩ := listAt_ok R r hs
      dsimp only at e
      cases hb : boolsW ws with
      | none => rw [hb] at e; exact e.elim
      | some bs => rw [hb] at e; rw [boolsW_ok hb rr] at hH; exact ⟨a, bs, rfl, hH, e⟩
  · exact e.elim
def allF : FN := lstB fun bs => .bl (bs.all id)
def anyF : FN := lstB fun bs => .bl (bs.any id)
theorem c_all (hK : X.K = T.K) (hc : X.calm = true) : CallO X T Wx (.builtin "all") allF := CallO.of (cr_all hc) fun σ ρ H g xs vs Q R rx e => by
  obtain ⟨a, bs, rfl, hH, e⟩ := lstB_inv R rx e
  exact ⟨a, bs, rfl, SqL.of hH, endok R rwb e⟩
theorem c_any (hK : X.K = T.K) (hc : X.calm = true) : CallO X T Wx (.builtin "any") anyF := CallO.of (cr_any hc) fun σ ρ H g xs vs Q R rx e => by
  obtain ⟨a, bs, rfl, hH, e⟩ := lstB_inv R rx e
  exact ⟨a, bs, rfl, SqL.of hH, endok R rwb e⟩
def sumF : FN := fun ws g => match ws with
  | [x] => match listAt g x with
    | some xs => match intsW xs with
      | some ns => .ok (.int ns.sum) g
      | none => .bad
    | none => .bad
  | _ => .bad
theorem c_sum (hK : X.K = T.K) (hc : X.calm = true) : CallO X T Wx (.builtin "sum") sumF := CallO.of (cr_sum hc) fun σ ρ H g xs vs Q R rx e => by
  unfold sumF at e
  split at e
  · rename_i x
    obtain ⟨v, rfl, r⟩ := rws1 rx
    cases hs : listAt g x with
    | none => rw [hs] at e; exact e.elim
    | some ws =>
      rw [hs] at e
      obtain ⟨l, a, us, _, _, _, rfl, hH, rr⟩ := listAt_ok R r hs
      dsimp only at e
      cases hb : intsW ws with
      | none => rw [hb] at e; exact e.elim
      | some bs => rw [hb] at e; rw [intsW_ok hb rr] at hH; exact ⟨a, bs, rfl, SqL.of hH, endok R rwi e⟩
  · exact e.elim
end
end WL
end
section
set_option maxRecDepth 100000
namespace WL
open PySem PySem.Spec L2
open PyProof.Rows hiding St
set_option autoImplicit true
variable {T : Tab}
section
variable {X : Cx} {Wx : WX}
abbrev FM := W → List W → G → Out W
def MtO (X : Cx) (T : Tab) (Wx : WX) (id : String) (f : FM) : Prop :=
  ∀ (pins : List (Addr × Obj)) (s : Shared) (σ : St) (H : Hp) (ρ : List Addr) (g : G) (x : W) (xs : List W) (vx : V) (vs : List V) (v : Value) (us : List Value) (Q : VK), Inv X pins σ H s → RG T ρ H g → RW T ρ H x vx → RWs T ρ H xs vs → RelV vx v → Vals vs us →
    EndR (RWr T) T Wx σ ρ H Q (f x xs g) → wpAny (model X.prog X.w) X.A (call (.builtin id) (v :: us)) (EP X pins σ Q) X.xe s
theorem MtO.of {id : String} {r : V → List V → Hp → VK → Prop} {f : FM} (h : MtR X id r) (hL : ∀ σ ρ H g x xs vx vs (Q : VK), RG T ρ H g → RW T ρ H x vx → RWs T ρ H xs vs → EndR (RWr T) T Wx σ ρ H Q (f x xs g) → r vx vs H Q) : MtO X T Wx id f :=
  fun pins s σ H ρ g x xs vx vs v us Q I R rx rxs r1 r2 e => h pins s σ H vx vs v us Q I r1 r2 (hL σ ρ H g x xs vx vs Q R rx rxs e)
def tyW (ty : String) (g : G) (x : W) : Bool := match x with
  | .str _ => ty == "str"
  | .ref l => match g[l]? with
    | some (.lst _) => ty == "list"
    | some (.dK _) => ty == "dict"
    | some (.dT _) => ty == "dict"
    | _ => false
  | _ => false
theorem tyW_ok {ty ρ H g x v} (R : RG T ρ H g) (r : RW T ρ H x v) (h : tyW ty g x = true) : tyV T.K ty v H := by
  cases x with
  | str s => cases rw_str r; exact beq_iff_eq.mp h
  | ref l =>
    obtain ⟨a, ha, rfl⟩ := rw_ref r
    simp only [tyW] at h
    split at h
    · rename_i ws e
      obtain ⟨vs, hH, _⟩ := lst_at R e ha
      exact .inl ⟨beq_iff_eq.mp h, vs, SqL.of hH⟩
    · rename_i ws e
      obtain ⟨vs, hH, _⟩ := R.obj l _ a e ha
      exact .inr (.inr (.inl ⟨beq_iff_eq.mp h, .inl ⟨vs, hH⟩⟩))
    · rename_i ws e
      obtain ⟨vs, hH, _⟩ := R.obj l _ a e ha
      exact .inr (.inr (.inl ⟨beq_iff_eq.mp h, .inr ⟨vs, hH⟩⟩))
    · cases h
  | _ => cases h
def eBM (ty : String) (f : FM) (o : ED) (a : AD) : ED := fun σ g => (o σ g).bind fun x g => if tyW ty g x then (a σ g).bind fun ws g => f x ws g else .bad
variable {o e : Expr} {es : List Expr} {mo : ED} {mas : AD} {name : Str} {apos cpos : Pos} {ty id : String} {f : FM}
theorem le_bm (hK : X.K = T.K) (pa : PlainAttrs ty) (slot : Slot ty name id) (hty : typeOf (.builtin id) = pure (.type "method_descriptor")) (hm : MtO X T Wx id f) (ho : PE X o (LE T Wx mo)) (ha : PA X (e :: es) (LA T Wx mas))
    (hbase : attributeBase o name X.env (eval o X.env) = eval o X.env := by rfl)
    (hfew : ((backTo cpos (starEach (e :: es) X.env)).all (fun x => !x.1) && (backToKw cpos (keywordEach [] X.env)).all (fun x => x.1.isSome)
      && decide ((e :: es).length + ([] : List Keyword).length + (if ([] : List Keyword).isEmpty then 0 else 1) < 30)) = true := by rfl)
    (hline : (apos.endLine == cpos.line) = true := by rfl) (hs : starEach (e :: es) X.env = (false, eval e X.env) :: starEach es X.env := by rfl) (hplain : (backTo cpos (starEach es X.env)).any (·.1) = false := by rfl) :
    PE X (.Call (.Attribute o name apos) (e :: es) [] cpos) (LE T Wx (eBM ty f mo mas)) := by
  refine ⟨fun pins s σ H Q I h => ?_⟩
  obtain ⟨ρ, σw, g, hs', hg, he⟩ := h
  refine wpAny_Call_method hbase hfew hline pa slot hty (thn (ho.run pins s σ H _ I ⟨ρ, σw, g, hs', hg, EndR.bind (Q' := fun vx H1 => ∃ ρ1 x g1, RS T ρ1 H1 σw σ ∧ RG T ρ1 H1 g1 ∧ RW T ρ1 H1 x vx ∧ tyW ty g1 x = true ∧ EndR (RWr T) T Wx σ ρ1 H1 Q ((mas σw g1).bind fun ws g => f x ws g)) he
    fun x g1 ρ1 H1 vx gr1 R1 rx he1 => ?_⟩) fun v s1 ⟨vx, H1, I1, r1, ρ1, x, g1, hs1, R1, rx, hty1, he1⟩ => ?_)
  · split at he1
    · rename_i hc
      exact ⟨ρ1, x, g1, hs'.mono gr1 _ _, R1, rx, hc, he1⟩
    · exact he1.elim
  · obtain ⟨h1, h2⟩ := tyV_is I1 r1 (by rw [hK]; exact tyW_ok R1 rx hty1)
    refine ⟨h1, h2, ?_⟩
    refine Calls.callWith_builtin (by rw [hs]; exact hplain) ?_
    rw [hs]
    have hs2 := hs
    refine Calls.evalArgs_plain ?_
    have run := ha.run cpos pins s1 σ H1 _ I1 ⟨ρ1, σw, g1, hs1, R1, EndR.bind (Q' := fun vs H2 => ∃ ρ2 xs g2, RG T ρ2 H2 g2 ∧ RW T ρ2 H2 x vx ∧ RWs T ρ2 H2 xs vs ∧ EndR (RWr T) T Wx σ ρ2 H2 Q (f x xs g2)) he1 fun xs g2 ρ2 H2 vs gr2 R2 rxs he2 => ⟨ρ2, xs, g2, R2, rx.mono gr2 _ _, rxs, he2⟩⟩
    rw [hs] at run
    exact thn run fun us s2 ⟨vs, H2, I2, r2, ρ2, xs, g2, R2, rx2, rxs, he2⟩ => hm pins s2 σ H2 ρ2 g2 x xs vx vs v us Q I2 R2 rx2 rxs r1 r2 he2
theorem le_bm0 (hK : X.K = T.K) (pa : PlainAttrs ty) (slot : Slot ty name id) (hty : typeOf (.builtin id) = pure (.type "method_descriptor")) (hm : MtO X T Wx id f) (ho : PE X o (LE T Wx mo))
    (hbase : attributeBase o name X.env (eval o X.env) = eval o X.env := by rfl) (hline : (apos.endLine == cpos.line) = true := by rfl) : PE X (.Call (.Attribute o name apos) [] [] cpos) (LE T Wx (eBM ty f mo aNil)) := by
  refine ⟨fun pins s σ H Q I h => ?_⟩
  obtain ⟨ρ, σw, g, hs', hg, he⟩ := h
  refine wpAny_Call_method0_late hbase hline (thn (ho.run pins s σ H _ I ⟨ρ, σw, g, hs', hg, EndR.bind (Q' := fun vx H1 => ∃ ρ1 x g1, RG T ρ1 H1 g1 ∧ RW T ρ1 H1 x vx ∧ tyW ty g1 x = true ∧ EndR (RWr T) T Wx σ ρ1 H1 Q (f x [] g1)) he
    fun x g1 ρ1 H1 vx gr1 R1 rx he1 => ?_⟩) fun v s1 ⟨vx, H1, I1, r1, ρ1, x, g1, R1, rx, hty1, he1⟩ => ?_)
  · split at he1
    · rename_i hc
      exact ⟨ρ1, x, g1, R1, rx, hc, he1⟩
    · exact he1.elim
  · obtain ⟨h1, h2⟩ := tyV_is I1 r1 (by rw [hK]; exact tyW_ok R1 rx hty1)
    exact ⟨ty, id, pa, slot, hty, h1, h2, Calls.callWith_builtin rfl (PySem.evalArgs_none (hm pins s1 σ H1 ρ1 g1 x [] vx [] v [] Q I1 R1 rx RWs.nil r1 .nil he1))⟩
/-- xs.append(y) -/
def appendM : FM := fun x ws g => match x, ws with
  | .ref l, [y] => match g[l]? with
    | some (.lst xs) => if fits xs.length then .ok .non (g.set l (.lst (xs ++ [y]))) else .bad
    | _ => .bad
  | _, _ => .bad
theorem m_append : MtO X T Wx "list.append" appendM := MtO.of (show MtR X _ _ from mt_append) fun σ ρ H g x xs vx vs Q R rx rxs e => by
  unfold appendM at e
  split at e
  · rename_i l y
    obtain ⟨a, ha, rfl⟩ := rw_ref rx
    obtain ⟨v, rfl, ry⟩ := rws1 rxs
    split at e
    · rename_i ws hg
      split at e
      · rename_i hf
        obtain ⟨us, hH, rr⟩ := lst_at R hg ha
        have mt : Mutb (H a) := by rw [hH]; trivial
        have gr : Grow ρ H ρ (upd H a (.lst (us ++ [v]))) := grow_write mt
        refine ⟨a, us, v, rfl, rfl, hH, by rw [← rr.length]; exact fits_lt hf, e ρ _ _ gr (R.write ha ⟨_, upd_same, ?_⟩) rwn⟩
        exact (rr.mono gr _ _).append (.cons (ry.mono gr _ _) RWs.nil)
      · exact e.elim
    · exact e.elim
  · exact e.elim
/-- xs.extend(ys), ys a list -/
def extendM : FM := fun x ws g => match x, ws with
  | .ref l, [y] => match g[l]?, listAt g y with
    | some (.lst xs), some ys => if fits xs.length && fits ys.length then .ok .non (g.set l (.lst (xs ++ ys))) else .bad
    | _, _ => .bad
  | _, _ => .bad
theorem m_extend : MtO X T Wx "list.extend" extendM := MtO.of (show MtR X _ _ from mt_extend) fun σ ρ H g x xs vx vs Q R rx rxs e => by
  unfold extendM at e
  split at e
  · rename_i l y
    obtain ⟨a, ha, rfl⟩ := rw_ref rx
    obtain ⟨v, rfl, ry⟩ := rws1 rxs
    split at e
    · rename_i ws ys hg hy
      split at e
      · rename_i hf
        obtain ⟨us, hH, rr⟩ := lst_at R hg ha
        obtain ⟨_, b, zs, _, _, _, rfl, hb, rz⟩ := listAt_ok R ry hy
        have mt : Mutb (H a) := by rw [hH]; trivial
        have gr : Grow ρ H ρ (upd H a (.lst (us ++ zs))) := grow_write mt
        refine ⟨a, b, us, zs, rfl, rfl, hH, hb, by rw [← rr.length, ← rz.length]; exact fits2 hf, e ρ _ _ gr (R.write ha ⟨_, upd_same, ?_⟩) rwn⟩
        exact (rr.mono gr _ _).append (rz.mono gr _ _)
      · exact e.elim
    · exact e.elim
  · exact e.elim
theorem rws_dropLast {ρ H ws vs} (r : RWs T ρ H ws vs) : RWs T ρ H ws.dropLast vs.dropLast := by
  rw [List.dropLast_eq_take, List.dropLast_eq_take, ← r.length]
  exact rws_take _ r
/-- xs.pop() -/
def popM : FM := fun x ws g => match x, ws with
  | .ref l, [] => match g[l]? with
    | some (.lst xs) => match xs[xs.length - 1]? with
      | some w => .ok w (g.set l (.lst xs.dropLast))
      | none => .bad
    | _ => .bad
  | _, _ => .bad
theorem m_pop : MtO X T Wx "list.pop" popM := MtO.of (show MtR X _ _ from mt_pop) fun σ ρ H g x xs vx vs Q R rx rxs e => by
  unfold popM at e
  split at e
  · rename_i l
    obtain ⟨a, ha, rfl⟩ := rw_ref rx
    simp only [RWs] at rxs
    subst rxs
    split at e
    · rename_i ws hg
      split at e
      · rename_i w hw
        obtain ⟨us, hH, rr⟩ := lst_at R hg ha
        obtain ⟨v, hv, rv⟩ := rr.get hw
        have mt : Mutb (H a) := by rw [hH]; trivial
        have gr : Grow ρ H ρ (upd H a (.lst us.dropLast)) := grow_write mt
        exact ⟨a, us, v, rfl, rfl, hH, by rw [← rr.length]; exact hv, e ρ _ _ gr (R.write ha ⟨_, upd_same, (rws_dropLast rr).mono gr _ _⟩) (rv.mono gr _ _)⟩
      · exact e.elim
    · exact e.elim
  · exact e.elim
/-- s.ljust(n), s.rjust(n), s.ljust(n, c) -/
def justM (f : Str → Int → Str) : FM := fun x ws g => match x, ws with
  | .str s, [.int i] => if PadOk i = true then .ok (.str (f s i)) g else .bad
  | _, _ => .bad
theorem m_just {id f} (h : MtR X id (fun x xs H Q => ∃ (a : Str) (i : Int), x = .str a ∧ xs = [.int i] ∧ PadOk i = true ∧ Q (.str (f a i)) H)) : MtO X T Wx id (justM f) := MtO.of h fun σ ρ H g x xs vx vs Q R rx rxs e => by
  unfold justM at e
  split at e
  · rename_i s i
    obtain ⟨v, rfl, ry⟩ := rws1 rxs
    cases rw_str rx
    cases rw_int ry
    split at e
    · rename_i hp
      exact ⟨s, i, rfl, rfl, hp, endok R rws e⟩
    · exact e.elim
  · exact e.elim
theorem m_ljust : MtO X T Wx "str.ljust" (justM Txt.ljust) := m_just mt_ljust
theorem m_rjust : MtO X T Wx "str.rjust" (justM Txt.rjust) := m_just mt_rjust
def ljust2M : FM := fun x ws g => match x, ws with
  | .str s, [.int i, .str f] => if PadOk i = true ∧ f.length = 1 then .ok (.str (Txt.ljustF s i (f.cps.getD 0 0))) g else .bad
  | _, _ => .bad
theorem m_ljust2 : MtO X T Wx "str.ljust" ljust2M := by
  intro pins s σ H ρ g x xs vx vs v us Q I R rx rxs r1 r2 e
  unfold ljust2M at e
  split at e
  · rename_i s i f
    obtain ⟨v1, v2, rfl, ry, rz⟩ := rws2 rxs
    cases rw_str rx
    cases rw_int ry
    cases rw_str rz
    split at e
    · rename_i hp
      obtain ⟨t, rfl⟩ := r1
      cases r2 with
      | cons q1 r2 =>
        cases r2 with
        | cons q2 r2 =>
          cases r2
          obtain ⟨t1, rfl⟩ := q1
          obtain ⟨t2, rfl⟩ := q2
          exact ljust_fill hp.1 hp.2 fun t' k => ⟨.str _, H, I.tok k, ⟨t', rfl⟩, endok R rws e⟩
    · exact e.elim
  · exact e.elim
/-- xs.index(y): the first place, of flat things or data -/
def indexM : FM := fun x ws g => match ws with
  | [y] => match listAt g x with
    | some xs => if flatW y && xs.all flatW then match xs.findIdx? (fun z => eqV (toV z) (toV y)) with
      | some j => .ok (.int j) g
      | none => .bad else .bad
    | none => .bad
  | _ => .bad
theorem m_index (hK : X.K = T.K) : MtO X T Wx "list.index" indexM := MtO.of mt_index fun σ ρ H g x xs vx vs Q R rx rxs e => by
  unfold indexM at e
  split at e
  · rename_i y
    obtain ⟨v, rfl, ry⟩ := rws1 rxs
    split at e
    · rename_i ws hx
      obtain ⟨l, a, us, rfl, _, _, rfl, hH, rr⟩ := listAt_ok R rx hx
      split at e
      · rename_i hf
        rw [Bool.and_eq_true] at hf
        obtain ⟨e1, e2⟩ := toV_ok hf.1 ry
        obtain ⟨e3, e4⟩ := toVs_ok hf.2 rr
        split at e
        · rename_i j hj
          obtain ⟨hj1, hj2, hj3⟩ := List.findIdx?_eq_some_iff_getElem.mp hj
          refine ⟨a, us, v, j, toV ws[j], rfl, rfl, by rw [hK]; exact SqL.of hH, e2, e4, by rw [e3]; simp [hj1], by rw [e1]; exact hj2, fun m z' hm hz => ?_, endok R rwi e⟩
          rw [e3, List.getElem?_map] at hz
          have hml : m < ws.length := by omega
          rw [List.getElem?_eq_getElem hml] at hz
          cases hz
          rw [e1]
          exact Bool.eq_false_iff.mpr (by simpa using hj3 m hm)
        · exact e.elim
      · exact e.elim
    · exact e.elim
  · exact e.elim
end
end WL
end
section
set_option maxRecDepth 100000
namespace WL
open PySem PySem.Spec L2
open PyProof.Rows hiding St
set_option autoImplicit true
variable {T : Tab} [NoEx T]
abbrev W0 : WX := fun _ _ _ _ => False
def wipeW (σ : Sg) : List Nat → Sg
  | [] => σ
  | v :: vs => (wipeW σ vs).set v none
theorem wipe_rs [NoEx T] {ρ H σw σ} (r : RS T ρ H σw σ) : ∀ vs : List Nat, RS T ρ H (wipeW σw vs) (wipe σ vs)
  | [] => r
  | v :: vs => RS.unset v (wipe_rs r vs)
theorem wipe_get (σ : St) : ∀ (vs : List Nat) (i : Nat), (wipe σ vs)[i]? = if i ∈ vs ∧ i < σ.length then some none else σ[i]?
  | [], i => by simp [wipe]
  | v :: vs, i => by
    unfold wipe
    rw [List.getElem?_set, wipe_length, wipe_get σ vs i]
    by_cases h : v = i
    · subst h
      by_cases hl : v < σ.length
      · simp [hl]
      · simp [hl]
    · have h' : ¬ i = v := fun q => h q.symm
      simp [h, h']
theorem wipe_set {σ : St} {i : Nat} {x : Option V} {vs : List Nat} (hi : i ∈ vs) : wipe (σ.set i x) vs = wipe σ vs := by
  apply List.ext_getElem?
  intro j
  rw [wipe_get, wipe_get, List.length_set]
  by_cases h : j ∈ vs ∧ j < σ.length
  · rw [if_pos h, if_pos h]
  · rw [if_neg h, if_neg h, List.getElem?_set]
    by_cases e : i = j
    · subst e
      by_cases hl : i < σ.length
      · exact absurd ⟨hi, hl⟩ h
      · rw [if_pos rfl, if_neg hl]
        exact (List.getElem?_eq_none (Nat.le_of_not_lt hl)).symm
    · rw [if_neg e]
theorem wipe_wipe (σ : St) (vs : List Nat) : wipe (wipe σ vs) vs = wipe σ vs := by
  apply List.ext_getElem?
  intro j
  rw [wipe_get, wipe_get, wipe_length]
  by_cases h : j ∈ vs ∧ j < σ.length
  · rw [if_pos h, if_pos h]
  · rw [if_neg h]
section
variable {X : Cx} {Wx : WX} {pos : Pos} {e : Expr}
/-- a target that stores into own slots alone -/
def LC (T : Tab) (own : List Nat) (m : GD) : TG := fun v σ H Q => ∃ ρ w σw g, RW T ρ H w v ∧ RS T ρ H σw σ ∧ RG T ρ H g ∧ EndR (fun ρ H (a : Sg) (b : St) => RS T ρ H a b ∧ wipe b own = wipe σ own) T W0 σ ρ H Q (m w σw g)
def LCs (T : Tab) (own : List Nat) (m : GDs) : TGs := fun vs σ H Q => ∃ ρ ws σw g, RWs T ρ H ws vs ∧ RS T ρ H σw σ ∧ RG T ρ H g ∧ EndR (fun ρ H (a : Sg) (b : St) => RS T ρ H a b ∧ wipe b own = wipe σ own) T W0 σ ρ H Q (m ws σw g)
theorem lc_name {own : List Nat} (i : Nat) {x : Str} (hN : X.N.Nodup) (ho : i ∈ own := by decide) (hi : X.N[i]? = some x := by rfl) (hx : Loc X.env.scope x := by first | exact Or.inl rfl | exact Or.inr rfl) (hf : X.fn x = true ∨ X.env.scope.names.lookup x = some .local := by first | exact .inl rfl | exact .inr rfl | assumption) :
    PG X (.Name x pos) (LC T own (gNm i)) := (pg_name hN hi hx hf).imp fun v σ H Q h => by
  obtain ⟨ρ, w, σw, g, hw, hs, hg, he⟩ := h
  exact he ρ H _ .refl hg ⟨hs.set hw i, wipe_set ho⟩
theorem lcs_nil {own : List Nat} : PGs X [] (LCs T own gsNil) := ⟨fun pins s σ H vs us Q I r h => pgs_nil.run pins s σ H vs us Q I r (by
  obtain ⟨ρ, ws, σw, g, hw, hs, hg, he⟩ := h
  cases ws with
  | nil => simp only [RWs] at hw; subst hw; exact ⟨rfl, he ρ H σ .refl hg ⟨hs, rfl⟩⟩
  | cons _ _ => exact he.elim)⟩
theorem lcs_cons {own : List Nat} {es : List Expr} {m : GD} {ms : GDs} (h1 : PG X e (LC T own m)) (h2 : PGs X es (LCs T own ms))
    (hs : (assignEach (e :: es) X.env).map (·.2) = assign e X.env :: (assignEach es X.env).map (·.2) := by rfl) : PGs X (e :: es) (LCs T own (gsCons m ms)) := ⟨fun pins s σ H vs us Q I r h => (pgs_cons h1 h2 hs).run pins s σ H vs us Q I r (by
  obtain ⟨ρ, ws, σw, g, hw, hs, hg, he⟩ := h
  cases ws with
  | nil => exact he.elim
  | cons w ws =>
    simp only [RWs] at hw
    obtain ⟨v, vr, rfl, hw1, hw2⟩ := hw
    refine ⟨v, vr, rfl, ρ, w, σw, g, hw1, hs, hg, ?_⟩
    simp only [gsCons] at he
    cases h1 : m w σw g with
    | ok σ1 g1 =>
      rw [h1] at he
      intro ρ1 H1 σ' gr R ⟨rs, wp⟩
      refine ⟨ρ1, ws, σ1, g1, hw2.mono gr _ _, rs, R, ?_⟩
      dsimp only at he
      cases h2 : ms ws σ1 g1 with
      | ok σ2 g2 => rw [h2] at he; exact fun ρ' H' b g2' R2 ⟨r2, w2⟩ => he ρ' H' b (gr.trans g2') R2 ⟨r2, w2.trans wp⟩
      | ex _ _ _ => rw [h2] at he; exact he.elim
      | bad => rw [h2] at he; exact he.elim
    | ex _ _ _ => rw [h1] at he; exact he.elim
    | bad => rw [h1] at he; exact he.elim)⟩
theorem lc_tup {own : List Nat} {es : List Expr} {k : Nat} {ms : GDs} {n : Nat} (hK : X.K = T.K) (hc : X.calm = true) (h : PGs X es (LCs T own ms))
    (hn : (assignEach es X.env).length = n := by rfl) (hst : (assignEach es X.env).findIdx? (·.1) = none := by rfl) : PG X (.Tuple es k pos) (LC T own (gTupW n ms)) := (pg_tup hc h hn hst).imp fun v σ H Q h => by
  obtain ⟨ρ, w, σw, g, hw, hs, hg, he⟩ := h
  cases w with
  | tup ws =>
    obtain ⟨a, vs, rfl, ha, hr⟩ := rw_tup hw
    simp only [gTupW] at he
    split at he
    · rename_i hl
      exact ⟨a, vs, rfl, SqT.of ha, by rw [← hr.length]; exact hl, ρ, ws, σw, g, hr, hs, hg, he⟩
    · exact he.elim
  | _ => exact he.elim
/-- the tests of a clause -/
def LTs (T : Tab) (m : TD) : TT := LT T W0 m
def tYesW : TD := fun _ g => .ok true g
theorem lts_nil : PTs X [] (LTs T tYesW) := ⟨fun pins s σ H Q I h => pts_nil.run pins s σ H Q I (by
  obtain ⟨ρ, σw, g, hs, hg, he⟩ := h
  exact he ρ H true .refl hg rfl)⟩
theorem lts_one {c : Expr} {t : TD} (h : PT X c (LT T W0 t)) : PTs X [c] (LTs T t) := pts_one h
/-- y behind the list at L -/
def appL (L : Nat) (y : W) (g : G) : Option G := match g[L]? with
  | some (.lst acc) => if fits acc.length then some (g.set L (.lst (acc ++ [y]))) else none
  | _ => none
def lcGo (J : Items) (tg : GD) (tt : TD) (te : ED) (own : List Nat) (σ : Sg) (L : Nat) : List W → G → Out Unit
  | [], g => if still J g then .ok () g else .bad
  | w :: ws, g => if still J g then match tg w (wipeW σ own) g with
    | .ok σ2 g2 => match tt σ2 g2 with
      | .ok true g3 => match te σ2 g3 with
        | .ok y g4 => match appL L y g4 with
          | some g5 => lcGo J tg tt te own σ L ws g5
          | none => .bad
        | _ => .bad
      | .ok false g3 => lcGo J tg tt te own σ L ws g3
      | _ => .bad
    | _ => .bad else .bad
def eLc (i : ID) (tg : GD) (tt : TD) (te : ED) (own : List Nat) : ED := fun σ g => (i σ g).bind fun J g1 => match lcGo J tg tt te own σ g1.length J.ws (g1 ++ [.lst []]) with
  | .ok _ g2 => .ok (.ref g1.length) g2
  | _ => .bad
/-- where a loop ends well -/
def EndU (T : Tab) (ρ : List Addr) (H : Hp) (Q : Hp → Prop) : Out Unit → Prop
  | .ok _ g => ∀ ρ' H', Grow ρ H ρ' H' → RG T ρ' H' g → Q H'
  | _ => False
theorem EndU.base {ρ H ρ1 H1 Q} {r : Out Unit} (gr : Grow ρ H ρ1 H1) (h : EndU T ρ H Q r) : EndU T ρ1 H1 Q r := by
  cases r with
  | ok a g => exact fun ρ' H' g2 => h ρ' H' (gr.trans g2)
  | _ => exact h
theorem appL_ok {ρ H g g' L D y v} (R : RG T ρ H g) (hD : ρ[L]? = some D) (ry : RW T ρ H y v) (h : appL L y g = some g') : ∃ acc, H D = some (.lst acc) ∧ acc.length < sizeLine ∧ Grow ρ H ρ (upd H D (.lst (acc ++ [v]))) ∧ RG T ρ (upd H D (.lst (acc ++ [v]))) g' := by
  unfold appL at h
  split at h
  · rename_i ws e
    split at h
    · rename_i hf
      cases h
      obtain ⟨vs, hH, r⟩ := lst_at R e hD
      have mt : Mutb (H D) := by rw [hH]; trivial
      have gr : Grow ρ H ρ (upd H D (.lst (vs ++ [v]))) := grow_write mt
      exact ⟨vs, hH, by rw [← r.length]; exact fits_lt hf, gr, R.write hD ⟨_, upd_same, (r.mono gr _ _).append (.cons (ry.mono gr _ _) RWs.nil)⟩⟩
    · cases h
  · cases h
theorem lift_lc {i : ID} {tg : GD} {tt : TD} {te : ED} {own : List Nat} {σ H Q} (h : LE T Wx (eLc i tg tt te own) σ H Q) : tLc (LI T Wx i) (LC T own tg) (LTs T tt) (LE T W0 te) own σ H Q := by
  obtain ⟨ρ0, σw, g0, hs0, hg0, he0⟩ := h
  refine ⟨ρ0, σw, g0, hs0, hg0, EndR.bind he0 fun J g1 ρ1 H1 Jt gr1 R1 rel he1 => ?_⟩
  intro D hD
  have he2 : EndU T (ρ1 ++ [D]) (upd H1 D (.lst [])) (fun H' => Q (.ref D) H') (lcGo J tg tt te own σw g1.length J.ws (g1 ++ [.lst []])) := by
    cases hr : lcGo J tg tt te own σw g1.length J.ws (g1 ++ [.lst []]) with
    | ok a g2 =>
      rw [hr] at he1
      intro ρ' H' gr R
      refine he1 ρ' H' (.ref D) ((grow_new hD).trans gr) R ?_
      simp only [RWr, RW]
      exact ⟨D, gr.pre _ _ (by rw [← R1.len]; simp), rfl⟩
    | _ => rw [hr] at he1; exact he1.elim
  refine ⟨fun i m H => ∃ ρ g, Grow (ρ1 ++ [D]) (upd H1 D (.lst [])) ρ H ∧ RG T ρ H g ∧ m = (J.ws.drop i).length ∧ EndU T ρ H (fun H' => Q (.ref D) H') (lcGo J tg tt te own σw g1.length (J.ws.drop i) g),
    ⟨_, ρ1 ++ [D], g1 ++ [.lst []], .refl, new_lst R1 hD RWs.nil, rfl, by simpa using he2⟩, ?_⟩
  rintro i m H ⟨ρ, g, gr, hg, rfl, he⟩
  have grJ := (grow_new (o := .lst []) hD).trans gr
  have hs : RS T ρ H σw σ := hs0.mono (gr1.trans grJ) _ _
  have hL : ρ[g1.length]? = some D := gr.pre _ _ (by rw [← R1.len]; simp)
  cases hd : J.ws.drop i with
  | nil =>
    rw [hd] at he
    simp only [lcGo] at he
    split at he
    · rename_i hst
      exact .inl ⟨rel.stop ρ H g i grJ hg hst (by simpa using hd), he ρ H .refl hg⟩
    · exact he.elim
  | cons w ws =>
    rw [hd] at he
    simp only [lcGo] at he
    split at he
    · rename_i hst
      have hw : J.ws[i]? = some w := by
        have : (J.ws.drop i)[0]? = some w := by rw [hd]; rfl
        simpa using this
      have hws : J.ws.drop (i + 1) = ws := by
        have : (J.ws.drop i).drop 1 = ws := by rw [hd]; rfl
        rw [List.drop_drop] at this
        exact this
      refine .inr ⟨rel.go ρ H g i w grJ hg hst hw, fun H => ∃ ρ g, Grow (ρ1 ++ [D]) (upd H1 D (.lst [])) ρ H ∧ RG T ρ H g ∧ EndU T ρ H (fun H' => Q (.ref D) H') (lcGo J tg tt te own σw g1.length ws g), fun H' ⟨ρ, g, a, b, c⟩ => ?_, fun x H' y => ?_⟩
      · exact ⟨ws.length, by simp, ρ, g, a, b, by rw [hws], by rw [hws]; exact c⟩
      · obtain ⟨ρ2, gr2, R2, rw2⟩ := rel.yld ρ H g i w x H' grJ hg hst hw y
        have hs2 := wipe_rs (hs.mono gr2 _ _) own
        refine ⟨ρ2, w, wipeW σw own, g, rw2, hs2, R2, ?_⟩
        have he := EndU.base gr2 he
        have go2 := gr.trans gr2
        cases htg : tg w (wipeW σw own) g with
        | ok σ2 g2 =>
          rw [htg] at he
          dsimp only at he
          intro ρ3 H3 σ3 gr3 R3 ⟨rs3, wp3⟩
          refine ⟨by rw [wp3, wipe_wipe], ρ3, σ2, g2, rs3, R3, ?_⟩
          have he := EndU.base gr3 he
          have go3 := go2.trans gr3
          cases htt : tt σ2 g2 with
          | ok b g3 =>
            rw [htt] at he
            intro ρ4 H4 b' gr4 R4 eb
            subst eb
            have he := EndU.base gr4 he
            have go4 := go3.trans gr4
            cases b with
            | false => rw [if_neg Bool.false_ne_true]; exact ⟨ρ4, g3, go4, R4, he⟩
            | true =>
              rw [if_pos rfl]
              dsimp only at he
              refine ⟨ρ4, σ2, g3, rs3.mono gr4 _ _, R4, ?_⟩
              cases hte : te σ2 g3 with
              | ok z g4 =>
                rw [hte] at he
                intro ρ5 H5 v gr5 R5 rz
                have he := EndU.base gr5 he
                have go5 := go4.trans gr5
                dsimp only at he
                split at he
                · rename_i g5 ha
                  obtain ⟨acc, h1, h2, gr6, R6⟩ := appL_ok R5 (go5.pre g1.length D (show (ρ1 ++ [D])[g1.length]? = some D by rw [← R1.len]; simp)) rz ha
                  exact ⟨acc, h1, h2, ρ5, g5, go5.trans gr6, R6, EndU.base gr6 he⟩
                · exact he.elim
              | ex c fs g4 => rw [hte] at he; exact he.elim
              | bad => rw [hte] at he; exact he.elim
          | ex c fs g3 => rw [htt] at he; exact he.elim
          | bad => rw [htt] at he; exact he.elim
        | ex c fs g2 => rw [htg] at he; exact he.elim
        | bad => rw [htg] at he; exact he.elim
    · exact he.elim
theorem le_lc {elt tg iter : Expr} {ifs : List Expr} {scope : Scope} {own : List (Str × Nat)} {i : ID} {g : GD} {tt : TD} {te : ED} (hc : X.calm = true) (hN : X.N.Nodup) (hi : PI X tg iter (LI T Wx i)) (ok : BlkOk X.N X.env.scope scope own)
    (hg : ∀ (s : Shared) (H : Hp) (C : Addr) (cl : List (Str × Addr)) (fp : List Addr), PG (X.blk s H scope (compEnvC scope cl C X.env) fp) tg (LC T (own.map (·.2)) g)) (ht : ∀ (s : Shared) (H : Hp) (C : Addr) (cl : List (Str × Addr)) (fp : List Addr), PTs (X.blk s H scope (compEnvC scope cl C X.env) fp) ifs (LTs T tt))
    (he : ∀ (s : Shared) (H : Hp) (C : Addr) (cl : List (Str × Addr)) (fp : List Addr), PE (X.blk s H scope (compEnvC scope cl C X.env) fp) elt (LE T W0 te)) (hs : ∀ x, foldedSetIterable iter X.env x = pure x := by intro _; rfl) :
    PE X (.ListComp elt [⟨tg, iter, ifs, 0⟩] scope pos) (LE T Wx (eLc i g tt te (own.map (·.2)))) := (pe_lc hc hN hi ok hg ht he hs).imp fun _ _ _ h => lift_lc h
theorem ls_setLc (j : Nat) {y : Str} {py : Pos} {spos : Pos} {elt tg iter : Expr} {ifs : List Expr} {scope : Scope} {own : List (Str × Nat)} {i : ID} {g : GD} {tt : TD} {te : ED} (hc : X.calm = true) (hN : X.N.Nodup) (hi : PI X tg iter (LI T Wx i)) (ok : BlkOk X.N X.env.scope scope own)
    (hg : ∀ (s : Shared) (H : Hp) (C : Addr) (cl : List (Str × Addr)) (fp : List Addr), PG (X.blk s H scope (compEnvC scope cl C X.env) fp) tg (LC T (own.map (·.2)) g)) (ht : ∀ (s : Shared) (H : Hp) (C : Addr) (cl : List (Str × Addr)) (fp : List Addr), PTs (X.blk s H scope (compEnvC scope cl C X.env) fp) ifs (LTs T tt))
    (he : ∀ (s : Shared) (H : Hp) (C : Addr) (cl : List (Str × Addr)) (fp : List Addr), PE (X.blk s H scope (compEnvC scope cl C X.env) fp) elt (LE T W0 te)) (hs : ∀ x, foldedSetIterable iter X.env x = pure x := by intro _; rfl)
    (hy : X.N[j]? = some y := by rfl) (hyl : X.env.scope.names.lookup y = some .local := by rfl)
    (hsw : swapsWith (.ListComp elt [⟨tg, iter, ifs, 0⟩] scope pos) (some (.Name y py)) spos.line X.env = pure true := by exact sw_true rfl rfl rfl (by decide +kernel)) :
    PS X (.Assign [.Name y py] (.ListComp elt [⟨tg, iter, ifs, 0⟩] scope pos) spos) (LS T Wx (sAsg (eLc i g tt te (own.map (·.2))) (gNm j))) :=
  (ps_setLc hc hN hy hyl hsw hi ok hg ht he hs).imp fun D σ H h => by
    obtain ⟨ρ, σw, g, hs, hg, h⟩ := h
    refine lift_lc ⟨ρ, σw, g, hs, hg, EndS.ofR hs h fun x g1 ρ1 H1 vx gr R rx he1 => ?_⟩
    exact he1 ρ1 H1 _ .refl R ((hs.mono gr _ _).set rx j)
end
end WL
end
section
set_option maxRecDepth 100000
set_option maxHeartbeats 1000000
namespace WL
open PySem PySem.Spec L2
open PyProof.Rows hiding St
set_option autoImplicit true
variable {T : Tab}
section
open PySem.W PySem.Calls PySem.HandSPX
variable {prog : Program} {w : World} {M : Model} {A : Around} {E : Value → Shared → Prop} {h : Heap} {g : Array GenState} {d : Drawn} {t : Nat} {os : OsState}
variable {nm q : Str} {C N : Addr} {bs bm bmB : List Value} {hdct : Bool} {sn : List Str} {sub : List Value} {ab : Bool} {col : Option Bool} {dd : Option Addr} {k0 k1 k2 k3 k5 : Option Value}
abbrev veW (x : Addr) : Obj := kxs_mw "ValueError.__init__" x
/-- the bound ValueError.__init__ called -/
theorem call_veW {u e t0 : Addr} {rest : List Value} {Q : Value → Shared → Prop}
    (hC : h.get? C = some (excClassObj nm q C N bs bm hdct sn sub ab col dd k0 k1 k2 k3 k5 "ValueError.__new__")) (he : h.get? e = some (excO C t0)) (hu : h.get? u = some (veW e)) (hrest : rest.length ≤ sizeLine)
    (hq : ∀ h' t1, (∀ b o, b ≠ e → h.get? b = some o → h'.get? b = some o) → h'.get? e = some (excO C t1) → Q .none ⟨h', g, d, t, os⟩) :
    wpAny (model prog w) A (call (.ref u) rest) Q E ⟨h, g, d, t, os⟩ := by
  refine wpAny_call (codeAny_of_tree ?_)
  show wpAny _ A.in1 (callAny (.ref u) ⟨rest, []⟩) _ _ _
  simp only [callAny]
  refine wpAny_bind (wpAny_load hu ?_)
  simp only [kxs_mw, show (Value.type "method-wrapper" == Value.type "method" || Value.type "method-wrapper" == Value.type "builtin_function_or_method" || Value.type "method-wrapper" == Value.type "method-wrapper") = true by decide, if_true]
  refine W.KFB.if_so (by decide) ?_
  refine wpAny_bind (PySem.ESX.check_bound F.excBase_ValueError hC he rfl ?_)
  refine wpAny_bind (wpAny_pure (wpAny_pure ?_))
  refine ⟨Code.quiet_builtin _ (by decide +kernel), codeAny_builtin F.excBase_ValueError.initEntry ?_⟩
  rw [Around.under_plainId F.excBase_ValueError.init.plain _]
  wp_walk
  refine hq _ h.objs.size (fun b o hb ho => ?_) ?_
  · rw [Heap.get?_update_other _ _ (Ne.symm hb)]
    exact Heap.get?_push_of_some _ ho
  · rw [Heap.get?_update_self _ (Heap.get?_push_of_some _ he) rfl]
    rfl
/-- what the written part says of such a class: at C; its __init__ at fI with the cell of __class__ at cc; D the class itself (C) -/
structure ExcT (K : Frag) (mg : Str → Option Value) (C fI : Addr) (x : Str) (fs : List Str) : Prop where
  gC : mg x = some (.ref C)
  cls : ∃ nm q N bs bm sn sub ab col dd k0 k1 k2 k3 k5, K.lookup C = some (excClassObj nm q C N bs bm true sn sub ab col dd k0 k1 k2 k3 k5 "ValueError.__new__") ∧ refsVE bm = true
  sa : findIn K (.ref C) "__setattr__" = some (some (.builtin "object.__setattr__"))
  ga : findIn K (.ref C) "__getattribute__" = some (some (.builtin "BaseException.__getattribute__"))
  gg : findIn K (.ref C) "__getattr__" = some none
  noN : ∀ n ∈ fs, findIn K (.ref C) n = some none
  iC : findIn K (.ref C) "__init__" = some (some (.ref fI))
  tC : typeIn K (.ref fI) = some (.type "function")
  kC : keepIn K (.ref C) = true
  exC : subIn K (.ref C) (.type "BaseException") = some true
  exV : subIn K (.ref C) (.type "ValueError") = some true
  tyC : typeIn K (.ref C) = some (.type "type")
  hdC : hasDictIn K C = true
  slf : mroIn K C (.ref C) = some true
  sup : ks_superIn K C C "__init__" = some (some (.builtin "ValueError.__init__"))
  tpy : nsIn K cStatics "thirdparty.any" = some none
  sg : mg "super" = none
/-- the body's head: super().__init__('..') -/
abbrev supS (q0 q1 q2 q3 q4 q5 : Pos) (j : Nat) (msg : Str) : Stmt := .Expr (.Call (.Attribute (.Call (.Name "super" q0) [] [] q1) "__init__" q2) [.Constant (.str msg) j q3] [] q4) q5
abbrev stoS (f : Str) (q1 q2 q3 q4 : Pos) : Stmt := .Assign [.Attribute (.Name "self" q1) f q2] (.Name f q3) q4
/-- the def of such an __init__, with its code's file -/
structure ExcFn (prog : Program) (K : Frag) (fI C : Addr) (ps : List Str) (body : List Stmt) : Prop where
  fn : ∃ (qual : Str) (args : Arguments) (scope : Scope) (oc : Value) (od : Option Addr) (kV doc pm : Value) (an : Option Addr) (cda : Addr) (ct : Value) (osl : Array (Option Value)) (cc : Addr) (ccl cl : Value) (cdd cld : Option Addr) (vs : Array Value) (ccs csl : Array (Option Value)) (file : Str) (tf : Tok) (ar : Arg),
    K.lookup fI = some ⟨oc, od, .func (ksFn "__init__" qual args body scope .none kV doc pm an (.ref cda) ct cc), osl⟩ ∧ codeIn K (.ref cda) qual = true ∧ K.lookup cda = some ⟨ccl, cdd, .fields vs, ccs⟩ ∧ vs[2]? = some (.str file tf) ∧ ((prog.main.file : Str) == file) = true ∧
      K.lookup cc = some ⟨cl, cld, .cell (some (.ref C)), csl⟩ ∧ (args.posonlyargs ++ args.args).head? = some ar ∧ ar.arg = "self" ∧ scope.names.lookup ("super" : Str) = some .globalImplicit ∧ scope.names.lookup ("__class__" : Str) = some .free ∧
      (∀ x ∈ scope.names, x.2 ≠ .cell) ∧ scope.isCoroutine = false ∧ scope.isGenerator = false ∧ scope.kind = .function ∧ (∀ p ∈ ps, scope.names.lookup p = some .local) ∧
      (∀ us : List Value, us.length = ps.length → bindArgs (ksFn "__init__" qual args body scope .none kV doc pm an (.ref cda) ct cc) ⟨us, []⟩ = pure (ps.zip us))
  top : (prog.main.scope.names.lookup ("super" : Str)).isSome = false
/-- the globals' and built-ins' names, as they are read -/
structure NsT (h : Heap) (mg : Str → Option Value) : Prop where
  g : h.Ns mainGlobals mg
  b : ∃ mb, h.Ns builtinsNs mb ∧ mb "super" = some (.type "super")
/-- what __init__ leaves of a fresh exception at x: its own dict at dx holds the fields -/
structure InitE (h h' : Heap) (x C dx t1 : Addr) (mA : Str → Option Value) : Prop where
  keep : ∀ b o, b ≠ x → h.get? b = some o → h'.get? b = some o
  obj : h'.get? x = some { cls := .ref C, dict := some dx, data := .fields #[.ref t1, .none, .none, .none, .bool false, .none] }
  dbig : h.objs.size ≤ dx
  dne : dx ≠ x
  ns : h'.Ns1 dx mA
theorem superIn_along {K : Frag} {C D : Addr} {name : Str} {r : Option (Option Value)} {cd : ClassData} (hc : clsIn K C = some cd) (h : ks_superIn K C D name = r) : alongIn K name ((cd.mro.dropWhile (· != .ref D)).drop 1) = r := by
  unfold ks_superIn at h
  rw [hc] at h
  exact h
/-- the call's tree, as it is for a text that is written -/
abbrev SupEv (q0 q1 q2 q3 q4 : Pos) (j : Nat) (msg : Str) (env : Env) (pl : Sem Bool) : Prop := eval (.Call (.Attribute (.Call (.Name "super" q0) [] [] q1) "__init__" q2) [.Constant (.str msg) j q3] [] q4) env = (do
  let ov ← attributeBase (.Call (.Name "super" q0) [] [] q1) "__init__" env (eval (.Call (.Name "super" q0) [] [] q1) env)
  standAt q2.atName
  let (f, first) ← holding [ov] (getMethod ov "__init__" pl)
  callWith q4 f first (backTo q4 (starEach [.Constant (.str msg) j q3] env)) [])
/-- the head of the body: super().__init__('..') on a fresh exception at x -/
theorem sup_ok {K : Frag} {mg : Str → Option Value} {C fI L x t0 cda cc : Addr} {qx xn : Str} {fs : List Str} {scope : Scope} {fd : FuncData} {ar : Arg} {body : List Stmt} {oc ccl cl : Value} {od cdd cld : Option Addr} {osl ccs csl : Array (Option Value)} {vs : Array Value} {file : Str} {tf : Tok} {m : Str → Option Value}
    {q0 q1 q2 q3 q4 q5 : Pos} {j : Nat} {msg : Str} {s : Shared} {Q : Flow → Shared → Prop} {pl : Sem Bool} (hev : SupEv q0 q1 q2 q3 q4 j msg (ksEnv qx scope L fI (.ref cda) cc) pl)
    (TT : ExcT K mg C fI xn fs) (X : K.In s.heap) (ns : NsT s.heap mg) (hf : K.lookup fI = some ⟨oc, od, .func fd, osl⟩) (hp : (fd.params.posonlyargs ++ fd.params.args).head? = some ar) (hself : ar.arg = "self")
    (hcode : K.lookup cda = some ⟨ccl, cdd, .fields vs, ccs⟩) (hvs : vs[2]? = some (.str file tf)) (hfile : ((prog.main.file : Str) == file) = true) (hcell : K.lookup cc = some ⟨cl, cld, .cell (some (.ref C)), csl⟩)
    (hks : scope.names.lookup ("super" : Str) = some .globalImplicit) (hkc : scope.names.lookup ("__class__" : Str) = some .free) (hka : scope.names.lookup ("self" : Str) = some .local) (hk : scope.kind = .function) (htop : (prog.main.scope.names.lookup ("super" : Str)).isSome = false)
    (hn : s.heap.Ns L m) (hv : m "self" = some (.ref x)) (hx : s.heap.get? x = some (excO C t0)) (hxL : L ≠ x)
    (hq : ∀ h' tk t1, (∀ b o, b ≠ x → s.heap.get? b = some o → h'.get? b = some o) → h'.get? x = some (excO C t1) → Q .next { s with heap := h', toks := tk }) :
    _root_.PySem.wpAt (model prog w) A (.func body (ksEnv qx scope L fI (.ref cda) cc)) (exec (supS q0 q1 q2 q3 q4 q5 j msg) (ksEnv qx scope L fI (.ref cda) cc)) Q E s := by
  obtain ⟨nm, q, N, bs, bm, sn, sub, ab, col, dd, k0, k1, k2, k3, k5, hC, hbm⟩ := TT.cls
  have hcl : clsIn K C = some { name := nm, bases := bs, mro := .ref C :: bm, ns := N, qualname := q, hasDict := true, slotNames := sn, subclasses := sub, abstract := ab, collection := col, hasDel := false } := by unfold clsIn; rw [hC] <;> rfl
  obtain ⟨mb, hb, hbs⟩ := ns.b
  refine ks_wpAt_Expr_any (ks_wpAt_MethodCall ?_ hev) (by show interactive (ksEnv qx scope L fI (.ref cda) cc) = false; simp [interactive, hk]) rfl
  refine ks_wpAt_super_base (env := ksEnv qx scope L fI (.ref cda) cc) hks hkc (by decide) rfl (X _ _ hf) rfl hp rfl (X _ _ hcode) rfl hvs hfile htop ?_
  refine ks_loadName_global hk hks (loadGlobal_builtin (env := ksEnv qx scope L fI (.ref cda) cc) ns.g TT.sg hb hbs ⟨rfl, ?_⟩)
  refine wpAny_loadName_free hk hkc rfl ⟨_, X _ _ hcell, rfl⟩ ?_
  rw [hself]
  refine wpAny_loadName_local hk hka hn hv ?_
  refine ks_wpAny_isType_cls (X _ _ hC) rfl ⟨rfl, ?_⟩
  refine ks_wpAny_call_super (X _ _ hC) rfl hx rfl (fun c e => by cases e) (looks_mroIn X TT.slf) (fun h1 e1 k1' => ?_)
  have X1 : K.In h1 := X.keeps k1'
  have hx1 := k1' _ _ hx
  have hxC : x ≠ C := fun z => by
    subst z
    have := X _ _ hC
    rw [hx] at this
    cases this
  have J : InstAt h1 x (excO C t0) C none := ⟨hx1, rfl, rfl, trivial⟩
  refine kxs_getMethod kxs_ValueError e1 (looks_opaque X1 TT.tpy) (l₀ := .ref C :: bm) ?_ rfl X1 (superIn_along hcl TT.sup) (J.type.andThen (looks_subIn X1 TT.exV)) hxC (by decide) ?_
  · exact fun A Q E s k q => wpAny_bind ((looks_clsIn X1 hcl) A _ E s k (wpAny_pure q))
  have hmw : (h1.push (veW x)).get? h1.objs.size = some (veW x) := Heap.get?_push_at rfl rfl
  show wpAny _ _ (callWith q4 (.ref h1.objs.size) [] (backTo q4 (starEach [.Constant (.str msg) j q3] (ksEnv qx scope L fI (.ref cda) cc))) []) _ _ _
  refine kxs_callWith (i := "ValueError.__init__") (x := x) rfl ?_
  refine evalArgs_plain ?_
  refine Calls.spliced_cons ?_
  show wpAny _ _ (eval (.Constant (.str msg) j q3) (ksEnv qx scope L fI (.ref cda) cc)) _ _ _
  refine Calls.Constant_str ?_
  refine Calls.spliced_nil ?_
  refine ⟨hmw, ?_⟩
  have k2' : ∀ b o, h1.get? b = some o → (h1.push (veW x)).get? b = some o := fun b o e => Heap.get?_push_of_some _ e
  refine call_veW (e := x) (t0 := t0) (k2' _ _ (X1 _ _ hC)) (k2' _ _ hx1) hmw (by show 1 ≤ sizeLine; rw [sizeLine_eq]; decide) fun h' t1 k e => ?_
  exact hq h' _ t1 (fun b o hb hs => k b o hb (k2' _ _ (k1' _ _ hs))) e
end
end WL
end
section
set_option maxRecDepth 100000
set_option maxHeartbeats 1000000
namespace WL
open PySem PySem.Spec L2
open PyProof.Rows hiding St
set_option autoImplicit true
variable {T : Tab}
section
open PySem.W PySem.Calls PySem.HandSPX
variable {prog : Program} {w : World} {A : Around} {R : Result → Shared → Prop} {s : Shared} {K : Frag} {mg : Str → Option Value} {C fI x t0 : Addr} {xn f1 f2 : Str} {v1 v2 : Value} {msg : Str} {j : Nat} {q0 q1 q2 q3 q4 q5 a1 a2 a3 a4 b1 b2 b3 b4 : Pos}
theorem ns_keep {h h' : Heap} {L : Addr} {m : Str → Option Value} (n : h.Ns L m) (k : ∀ o, h.get? L = some o → h'.get? L = some o) : h'.Ns L m := by
  obtain ⟨o, es, ep, ho, r⟩ := n
  exact ⟨o, es, ep, k o ho, r⟩
theorem kept_but {h h' : Heap} {x : Addr} (X : K.In h) (hx : K.lookup x = none) (k : ∀ b o, b ≠ x → h.get? b = some o → h'.get? b = some o) : K.In h' := fun a o e =>
  k a o (fun z => by rw [z, hx] at e; cases e) (X a o e)
/-- the body's head and first store -/
theorem efirst {qx : Str} {scope : Scope} {L cda cc : Addr} {fd : FuncData} {ar : Arg} {body rest : List Stmt} {oc ccl cl : Value} {od cdd cld : Option Addr} {osl ccs csl : Array (Option Value)} {vs : Array Value} {file : Str} {tf : Tok} {m : Str → Option Value} {Q : Flow → Shared → Prop} {fs : List Str} {pl : Sem Bool}
    (hev : SupEv q0 q1 q2 q3 q4 j msg (ksEnv qx scope L fI (.ref cda) cc) pl)
    (TT : ExcT K mg C fI xn fs) (h1 : f1 ∈ fs) (X : K.In s.heap) (ns : NsT s.heap mg) (hf : K.lookup fI = some ⟨oc, od, .func fd, osl⟩) (hp : (fd.params.posonlyargs ++ fd.params.args).head? = some ar) (hself : ar.arg = "self")
    (hcode : K.lookup cda = some ⟨ccl, cdd, .fields vs, ccs⟩) (hvs : vs[2]? = some (.str file tf)) (hfile : ((prog.main.file : Str) == file) = true) (hcell : K.lookup cc = some ⟨cl, cld, .cell (some (.ref C)), csl⟩)
    (hks : scope.names.lookup ("super" : Str) = some .globalImplicit) (hkc : scope.names.lookup ("__class__" : Str) = some .free) (hka : scope.names.lookup ("self" : Str) = some .local) (hk1 : scope.names.lookup f1 = some .local) (hd1 : (f1 == ("__debug__" : Str)) = false)
    (hk : scope.kind = .function) (htop : (prog.main.scope.names.lookup ("super" : Str)).isSome = false)
    (hn : s.heap.Ns L m) (hv : m "self" = some (.ref x)) (hv1 : m f1 = some v1) (hx : s.heap.get? x = some (excO C t0)) (hnx : K.lookup x = none) (hxL : L ≠ x)
    (hq : ∀ h' tk dx t1, K.In h' → (∀ b o, b ≠ x → s.heap.get? b = some o → h'.get? b = some o) → L < dx → dx ≠ x → h'.get? x = some { cls := .ref C, dict := some dx, data := .fields #[.ref t1, .none, .none, .none, .bool false, .none] } → h'.Ns1 dx (fun y => if y = f1 then some v1 else none) →
      _root_.PySem.wpAt (model prog w) A (.func body (ksEnv qx scope L fI (.ref cda) cc)) (execs rest (ksEnv qx scope L fI (.ref cda) cc)) Q E { s with heap := h', toks := tk }) :
    _root_.PySem.wpAt (model prog w) A (.func body (ksEnv qx scope L fI (.ref cda) cc)) (execs (supS q0 q1 q2 q3 q4 q5 j msg :: stoS f1 a1 a2 a3 a4 :: rest) (ksEnv qx scope L fI (.ref cda) cc)) Q E s := by
  obtain ⟨nm, q, N, bs, bm, sn, sub, ab, col, dd, k0, k1, k2, k3, k5, hC, hbm⟩ := TT.cls
  have hcl : clsIn K C = some { name := nm, bases := bs, mro := .ref C :: bm, ns := N, qualname := q, hasDict := true, slotNames := sn, subclasses := sub, abstract := ab, collection := col, hasDel := false } := by unfold clsIn; rw [hC] <;> rfl
  refine ks_wpAt_execs_cons (sup_ok (pl := pl) hev TT X ns hf hp hself hcode hvs hfile hcell hks hkc hka hk htop hn hv hx hxL fun h' tk t1 kk e1 => ?_)
  have X₂ : K.In h' := kept_but X hnx kk
  have hn2 : h'.Ns L m := ns_keep hn fun o z => kk _ o hxL z
  refine ks_wpAt_execs_cons (wpAt_of_wpAny (plainObj_wpAny_Assign_Attribute ?_))
  refine PySem.ESX.ldL (env := ksEnv qx scope L fI (.ref cda) cc) hn2 hv1 ?_ hk hk1 hd1
  refine PySem.ESX.ldL (env := ksEnv qx scope L fI (.ref cda) cc) hn2 hv ?_ hk hka (by decide)
  refine set_plain X₂ (ox := excO C t1) (od := none) ⟨e1, rfl, rfl, trivial⟩ TT.sa ?_
  refine exc_osa X₂ e1 hcl (show refsVE (.ref C :: bm) = true from hbm) rfl (TT.noN f1 h1) (fun h₃ tk₃ dx k₃ dn dne hx₃ hn₃ => ?_)
  have big : L < dx := Nat.lt_of_lt_of_le hn2.lt dn
  exact hq h₃ tk₃ dx t1 (kept_but X₂ hnx k₃) (fun b o hb e => k₃ b o hb (kk b o hb e)) big dne hx₃ hn₃
/-- one field -/
theorem einit1 {fs : List Str} (TT : ExcT K mg C fI xn fs) (h1 : f1 ∈ fs) (FF : ExcFn prog K fI C ["self", f1] [supS q0 q1 q2 q3 q4 q5 j msg, stoS f1 a1 a2 a3 a4]) (hne : f1 ≠ "self") (hdb : (f1 == ("__debug__" : Str)) = false)
    (hev : ∀ qx scope L cda cc, scope.names.lookup ("super" : Str) = some NameKind.globalImplicit → ∃ pl, SupEv q0 q1 q2 q3 q4 j msg (ksEnv qx scope L fI (.ref cda) cc) pl)
    (X : K.In s.heap) (hlim : s.heap.NoLimit) (ns : NsT s.heap mg) (hx : s.heap.get? x = some (excO C t0)) (hnx : K.lookup x = none) (hroom : A.depth < recursionLimit)
    (hq : ∀ h' tk dx t1, InitE s.heap h' x C dx t1 (fun y => if y = f1 then some v1 else none) → R (.ok (.ret .none)) { s with heap := h', toks := tk }) :
    codeAny (model prog w) A (.call (.ref fI) ⟨[.ref x, v1], []⟩) R s := by
  obtain ⟨qual, args, scope, oc, od, kV, doc, pm, an, cda, ct, osl, cc, ccl, cl, cdd, cld, vs, ccs, csl, file, tf, ar, hf, hcd, hcode, hvs, hfile, hcell, hp, hself, hks, hkc, hnc, hco, hgen, hk, hloc, hbind⟩ := FF.fn
  obtain ⟨pl, hev⟩ := hev qual scope s.heap.objs.size cda cc hks
  refine ks_codeAny_call_defAt (binds := [("self", .ref x), (f1, v1)]) hroom (X _ _ hf) rfl hlim (codeRec_of X hcd) rfl (BindsTo.of_eq (hbind [.ref x, v1] rfl)) hnc (fun y hy => ?_) (fun h₁ hns hk₁ => ?_) hco hgen hk
  · rcases List.mem_cons.mp hy with rfl | hy
    · exact hloc _ (by simp)
    · rw [List.mem_singleton] at hy
      subst hy
      exact hloc _ (by simp)
  have hxL : s.heap.objs.size ≠ x := Nat.ne_of_gt (Heap.lt_size hx)
  have X₁ : K.In h₁ := X.keeps hk₁
  have hx₁ := hk₁ _ _ hx
  have ms : (fun y => List.lookup y ([("self", .ref x), (f1, v1)] : List (Str × Value)).reverse) "self" = some (.ref x) := by
    have e : (("self" : Str) == f1) = false := by rw [beq_eq_false_iff_ne]; exact fun z => hne z.symm
    simp [List.lookup, e]
  have m1 : (fun y => List.lookup y ([("self", .ref x), (f1, v1)] : List (Str × Value)).reverse) f1 = some v1 := by simp [List.lookup]
  refine efirst (pl := pl) hev TT h1 X₁ ?_ hf hp hself hcode hvs hfile hcell hks hkc (hloc _ (by simp)) (hloc _ (by simp)) hdb hk FF.top hns ms m1 hx₁ hnx hxL fun h' tk dx t1 X2 kk big dne hx2 hn2 => ?_
  · obtain ⟨mb, hb1, hb2⟩ := ns.b
    exact ⟨ns_keep ns.g fun o z => hk₁ _ o z, mb, ns_keep hb1 fun o z => hk₁ _ o z, hb2⟩
  refine wpAt_of_wpAny (wpAny_execs_nil ?_)
  exact hq h' tk dx t1 ⟨fun b o hb e => kk b o hb (hk₁ b o e), hx2, Nat.le_of_lt big, dne, hn2⟩
/-- two fields -/
theorem einit2 {fs : List Str} (TT : ExcT K mg C fI xn fs) (h1 : f1 ∈ fs) (h2 : f2 ∈ fs) (FF : ExcFn prog K fI C ["self", f1, f2] [supS q0 q1 q2 q3 q4 q5 j msg, stoS f1 a1 a2 a3 a4, stoS f2 b1 b2 b3 b4]) (hne : f1 ≠ "self") (hne2 : f2 ≠ "self") (h12 : f1 ≠ f2) (hdb : (f1 == ("__debug__" : Str)) = false) (hdb2 : (f2 == ("__debug__" : Str)) = false)
    (hev : ∀ qx scope L cda cc, scope.names.lookup ("super" : Str) = some NameKind.globalImplicit → ∃ pl, SupEv q0 q1 q2 q3 q4 j msg (ksEnv qx scope L fI (.ref cda) cc) pl)
    (X : K.In s.heap) (hlim : s.heap.NoLimit) (ns : NsT s.heap mg) (hx : s.heap.get? x = some (excO C t0)) (hnx : K.lookup x = none) (hroom : A.depth < recursionLimit)
    (hq : ∀ h' tk dx t1, InitE s.heap h' x C dx t1 (fun y => if y = f2 then some v2 else if y = f1 then some v1 else none) → R (.ok (.ret .none)) { s with heap := h', toks := tk }) :
    codeAny (model prog w) A (.call (.ref fI) ⟨[.ref x, v1, v2], []⟩) R s := by
  obtain ⟨qual, args, scope, oc, od, kV, doc, pm, an, cda, ct, osl, cc, ccl, cl, cdd, cld, vs, ccs, csl, file, tf, ar, hf, hcd, hcode, hvs, hfile, hcell, hp, hself, hks, hkc, hnc, hco, hgen, hk, hloc, hbind⟩ := FF.fn
  obtain ⟨pl, hev⟩ := hev qual scope s.heap.objs.size cda cc hks
  refine ks_codeAny_call_defAt (binds := [("self", .ref x), (f1, v1), (f2, v2)]) hroom (X _ _ hf) rfl hlim (codeRec_of X hcd) rfl (BindsTo.of_eq (hbind [.ref x, v1, v2] rfl)) hnc (fun y hy => ?_) (fun h₁ hns hk₁ => ?_) hco hgen hk
  · rcases List.mem_cons.mp hy with rfl | hy
    · exact hloc _ (by simp)
    · rcases List.mem_cons.mp hy with rfl | hy
      · exact hloc _ (by simp)
      · rw [List.mem_singleton] at hy
        subst hy
        exact hloc _ (by simp)
  have hxL : s.heap.objs.size ≠ x := Nat.ne_of_gt (Heap.lt_size hx)
  have X₁ : K.In h₁ := X.keeps hk₁
  have hx₁ := hk₁ _ _ hx
  have ms : (fun y => List.lookup y ([("self", .ref x), (f1, v1), (f2, v2)] : List (Str × Value)).reverse) "self" = some (.ref x) := by
    have e : (("self" : Str) == f1) = false := by rw [beq_eq_false_iff_ne]; exact fun z => hne z.symm
    have e2 : (("self" : Str) == f2) = false := by rw [beq_eq_false_iff_ne]; exact fun z => hne2 z.symm
    simp [List.lookup, e, e2]
  have m1 : (fun y => List.lookup y ([("self", .ref x), (f1, v1), (f2, v2)] : List (Str × Value)).reverse) f1 = some v1 := by
    have e : (f1 == f2) = false := by rw [beq_eq_false_iff_ne]; exact h12
    simp [List.lookup, e]
  have m2 : (fun y => List.lookup y ([("self", .ref x), (f1, v1), (f2, v2)] : List (Str × Value)).reverse) f2 = some v2 := by simp [List.lookup]
  refine efirst (pl := pl) hev TT h1 X₁ ?_ hf hp hself hcode hvs hfile hcell hks hkc (hloc _ (by simp)) (hloc _ (by simp)) hdb hk FF.top hns ms m1 hx₁ hnx hxL fun h' tk dx t1 X2 kk big dne hx2 hn2 => ?_
  · obtain ⟨mb, hb1, hb2⟩ := ns.b
    exact ⟨ns_keep ns.g fun o z => hk₁ _ o z, mb, ns_keep hb1 fun o z => hk₁ _ o z, hb2⟩
  obtain ⟨nm, q, N, bs, bm, sn, sub, ab, col, dd, k0, k1, k2, k3, k5, hC, hbm⟩ := TT.cls
  have hcl : clsIn K C = some { name := nm, bases := bs, mro := .ref C :: bm, ns := N, qualname := q, hasDict := true, slotNames := sn, subclasses := sub, abstract := ab, collection := col, hasDel := false } := by unfold clsIn; rw [hC] <;> rfl
  have hLd : s.heap.objs.size ≠ dx := Nat.ne_of_lt big
  have hn3 := ns_keep hns fun o z => kk _ o hxL z
  refine ks_wpAt_execs_cons (wpAt_of_wpAny (plainObj_wpAny_Assign_Attribute ?_))
  refine PySem.ESX.ldL (env := ksEnv qual scope s.heap.objs.size fI (.ref cda) cc) hn3 m2 ?_ hk (hloc _ (by simp)) hdb2
  refine PySem.ESX.ldL (env := ksEnv qual scope s.heap.objs.size fI (.ref cda) cc) hn3 ms ?_ hk (hloc _ (by simp)) (by decide)
  have hw : Within (fun y => if y = f1 then some v1 else none) [f1] := fun y hy => by
    by_cases e : y = f1
    · subst e; simp
    · simp [e] at hy
  obtain ⟨oD, _, _, hoD, _, _⟩ := hn2.count hw
  refine set_plain X2 (ox := { cls := .ref C, dict := some dx, data := .fields #[.ref t1, .none, .none, .none, .bool false, .none] }) (od := some oD) ⟨hx2, rfl, rfl, hoD⟩ TT.sa ?_
  refine PySem.OEX.osa_old X2 hx2 hn2 hw (by show 1 ≤ 1000; decide) hcl (show refsVE (.ref C :: bm) = true from hbm) rfl (TT.noN f2 h2) (fun h₄ tk₄ k₄ hn₄ => ?_)
  refine wpAt_of_wpAny (wpAny_execs_nil ?_)
  have old : ∀ b o, s.heap.get? b = some o → b ≠ dx := fun b o e => Nat.ne_of_lt (Nat.lt_trans (Heap.lt_size e) big)
  exact hq h₄ tk₄ dx t1 ⟨fun b o hb e => k₄ b o (old b o e) (kk b o hb (hk₁ b o e)), k₄ _ _ dne.symm hx2, Nat.le_of_lt big, dne, hn₄⟩
end
end WL
end
section
set_option maxRecDepth 100000
set_option maxHeartbeats 1000000
namespace WL
open PySem PySem.Spec L2
open PyProof.Rows hiding St
set_option autoImplicit true
variable {T : Tab}
section
open PySem.W PySem.Calls PySem.HandSPX
/-- C.__init__ keeps its arguments under the names fl -/
def InitP (prog : Program) (w : World) (K : Frag) (mg : Str → Option Value) (C fI : Addr) (fl : List Str) : Prop := ∀ (vs : List V) (us : List Value), Vals vs us → us.length = fl.length →
  ∃ mA : Str → Option Value, (∀ f, RelO (((fl.zip vs).reverse).lookup f) (mA f)) ∧ ∀ (A : Around) (R : Result → Shared → Prop) (s : Shared) (x t0 : Addr), K.In s.heap → s.heap.NoLimit → NsT s.heap mg → s.heap.get? x = some (excO C t0) → K.lookup x = none → A.depth < recursionLimit →
    (∀ h' tk dx t1, InitE s.heap h' x C dx t1 mA → R (.ok (.ret .none)) { s with heap := h', toks := tk }) → codeAny (model prog w) A (.call (.ref fI) ⟨.ref x :: us, []⟩) R s
variable {prog : Program} {w : World} {K : Frag} {mg : Str → Option Value} {C fI : Addr} {xn f1 f2 : Str} {msg : Str} {j : Nat} {q0 q1 q2 q3 q4 q5 a1 a2 a3 a4 b1 b2 b3 b4 : Pos} {fs : List Str}
theorem initP1 (TT : ExcT K mg C fI xn fs) (h1 : f1 ∈ fs) (FF : ExcFn prog K fI C ["self", f1] [supS q0 q1 q2 q3 q4 q5 j msg, stoS f1 a1 a2 a3 a4]) (hne : f1 ≠ "self") (hdb : (f1 == ("__debug__" : Str)) = false)
    (hev : ∀ qx scope L cda cc, scope.names.lookup ("super" : Str) = some NameKind.globalImplicit → ∃ pl, SupEv q0 q1 q2 q3 q4 j msg (ksEnv qx scope L fI (.ref cda) cc) pl) : InitP prog w K mg C fI [f1] := by
  intro vs us r hl
  match us, hl, r with
  | [v1], _, .cons r1 .nil =>
    exact ⟨fun y => if y = f1 then some v1 else none, relO_put (fs := []) r1 fun g => True.intro, fun A R s x t0 X hlim ns hx hnx hroom hq => einit1 TT h1 FF hne hdb hev X hlim ns hx hnx hroom hq⟩
theorem initP2 (TT : ExcT K mg C fI xn fs) (h1 : f1 ∈ fs) (h2 : f2 ∈ fs) (FF : ExcFn prog K fI C ["self", f1, f2] [supS q0 q1 q2 q3 q4 q5 j msg, stoS f1 a1 a2 a3 a4, stoS f2 b1 b2 b3 b4]) (hne : f1 ≠ "self") (hne2 : f2 ≠ "self") (h12 : f1 ≠ f2) (hdb : (f1 == ("__debug__" : Str)) = false) (hdb2 : (f2 == ("__debug__" : Str)) = false)
    (hev : ∀ qx scope L cda cc, scope.names.lookup ("super" : Str) = some NameKind.globalImplicit → ∃ pl, SupEv q0 q1 q2 q3 q4 j msg (ksEnv qx scope L fI (.ref cda) cc) pl) : InitP prog w K mg C fI [f1, f2] := by
  intro vs us r hl
  match us, hl, r with
  | [v1, v2], _, .cons r1 (.cons r2 .nil) =>
    exact ⟨fun y => if y = f2 then some v2 else if y = f1 then some v1 else none, relO_put r2 (relO_put (fs := []) r1 fun g => True.intro), fun A R s x t0 X hlim ns hx hnx hroom hq => einit2 TT h1 h2 FF hne hne2 h12 hdb hdb2 hev X hlim ns hx hnx hroom hq⟩
/-- a made exception -/
structure OwnMade (h h' : Heap) (e C d : Addr) (mA : Str → Option Value) : Prop where
  keep : ∀ b o, h.get? b = some o → h'.get? b = some o
  new : h.objs.size ≤ e
  obj : ∃ oe vs, h'.get? e = some oe ∧ oe.cls = .ref C ∧ oe.dict = some d ∧ oe.data = .fields vs ∧ vs[1]? = some .none
  dbig : h.objs.size ≤ d
  dne : d ≠ e
  ns : h'.Ns1 d mA
theorem exc_made {fl : List Str} {vs : List V} {us : List Value} {A : Around} {R : Result → Shared → Prop} {s : Shared} (T : ExcT K mg C fI xn fs) (ip : InitP prog w K mg C fI fl) (rv : Vals vs us) (hl : us.length = fl.length) (hz : us.length ≤ sizeLine) (X : K.In s.heap) (hlim : s.heap.NoLimit) (ns : NsT s.heap mg) (hroom : A.depth + 1 < recursionLimit) :
    ∃ mA : Str → Option Value, (∀ f, RelO (((fl.zip vs).reverse).lookup f) (mA f)) ∧ ((∀ h' tk e d, OwnMade s.heap h' e C d mA → R (.ok (.ret (.ref e))) { s with heap := h', toks := tk }) → codeAny (model prog w) A (.call (.ref C) ⟨us, []⟩) R s) := by
  obtain ⟨mA, hr, hinit⟩ := ip vs us rv hl
  refine ⟨mA, hr, fun hq => ?_⟩
  obtain ⟨nm, q, N, bs, bm, sn, sub, ab, col, dd, k0, k1, k2, k3, k5, hC, hbm⟩ := T.cls
  obtain ⟨hp, g, dr, tk, os⟩ := s
  have k : ∀ b o, hp.get? b = some o → ((hp.push (kdv_tup us)).push (excO C hp.objs.size)).get? b = some o := fun b o e => Heap.get?_push_of_some _ (Heap.get?_push_of_some _ e)
  have hget : ((hp.push (kdv_tup us)).push (excO C hp.objs.size)).get? (hp.objs.size + 1) = some (excO C hp.objs.size) := by heap_get
  have hnx : K.lookup (hp.objs.size + 1) = none := by
    cases e : K.lookup (hp.objs.size + 1) with
    | none => rfl
    | some o =>
      have z : hp.get? (hp.objs.size + 1) = some o := X _ _ e
      exact absurd (Nat.lt_of_succ_lt (Heap.lt_size z)) (Nat.lt_irrefl _)
  refine call_own F.excBase_ValueError (fun X => refsVE_contains X bm hbm) (X _ _ hC) (looks_findIn X T.iC) (fun self => bind_fn X self T.tC) hz ?_
  obtain ⟨mb, hb1, hb2⟩ := ns.b
  refine hinit _ _ ⟨(hp.push (kdv_tup us)).push (excO C hp.objs.size), g, dr, tk, os⟩ (hp.objs.size + 1) hp.objs.size (X.keeps k) (hlim.keeps k) ⟨ns_keep ns.g fun o z => k _ o z, mb, ns_keep hb1 fun o z => k _ o z, hb2⟩ hget hnx ?_ fun h' tk' dx t1 ⟨k', hx, dn, dne, hns⟩ => ?_
  · show A.depth + 1 < recursionLimit
    exact hroom
  · have old : ∀ b o, hp.get? b = some o → h'.get? b = some o := fun b o e => k' b o (Nat.ne_of_lt (Nat.lt_succ_of_lt (Heap.lt_size e))) (k b o e)
    have z : hp.objs.size + 1 + 1 ≤ dx := by
      first
        | (simpa only [Heap.size_push] using dn)
        | exact dn
        | (have q := dn; rw [Heap.size_push, Heap.size_push] at q; exact q)
    exact ⟨rfl, hq h' tk' (hp.objs.size + 1) dx ⟨old, Nat.le_succ _, ⟨_, _, hx, rfl, rfl, rfl, rfl⟩, Nat.le_trans (Nat.le_trans (Nat.le_succ _) (Nat.le_succ _)) z, dne, hns⟩⟩
end
section
variable {X : Cx} {C fI : Addr} {Wx : WX}
theorem nsT_of {pins : List (Addr × Obj)} {σ : St} {H : Hp} {s : Shared} (I : Inv X pins σ H s) (sg : X.mg "super" = none) : NsT s.heap X.mg := by
  obtain ⟨mb, h1, h2⟩ := I.mod.blt
  exact ⟨I.mod.glob.keeps I.bk, mb, h1.keeps I.bk, (h2 "super" (by decide)).trans PyProof.Rows.Boot.«super»⟩
/-- C(..) -/
def tMkE (C : Addr) (fl : List Str) (ta : TA) : St → Hp → XK → Prop := fun σ H Q => ta σ H fun vs H1 => vs.length = fl.length ∧ ∀ d, H1 d = none → Q (.ref C) (some d) (upd H1 d (.xd (fl.zip vs).reverse))
theorem pmk_exc {e : Expr} {es : List Expr} {ta : TA} {p pos : Pos} {k : Nat} {xn : Str} {fs fl : List Str} (T : ExcT X.K X.mg C fI xn fs) (ip : InitP X.prog X.w X.K X.mg C fI fl) (hfl : fl.length ≤ 100) (hr : Room (k + 1) X.A) (ha : PA X (e :: es) ta) (hg : Gl X xn := by rfl)
    (hdb : (xn == ("__debug__" : Str)) = false := by decide) (he : starEach (e :: es) X.env = (false, eval e X.env) :: starEach es X.env := by rfl) (hpl : (backTo pos (starEach es X.env)).any (·.1) = false := by rfl) :
    PMk X (.Call (.Name xn p) (e :: es) [] pos) (tMkE C fl ta) := by
  intro pins s σ H Q I h
  refine wpAny_Call_Name_kw (ld_glob I hg T.gC ?_ hdb)
  refine PySem.W.callWith_K (h₀ := X.base) I.ok.mod.kin T.kC (thn (ha.run pos pins s σ H _ I h) fun us s1 hh => ?_) he hpl
  obtain ⟨vs, H1, I1, r1, ev, q1⟩ := hh
  refine ⟨I1.kIn, ?_⟩
  have hlim := I1.nolimit
  have ns := nsT_of I1 T.sg
  have hl : us.length = fl.length := by rw [← r1.length, ev]
  obtain ⟨hp, g, dr, tk, os⟩ := s1
  show wpAny _ _ (call (.ref C) us) _ _ _
  obtain ⟨mA, hrel, mk⟩ := exc_made (A := X.A) (R := fun r s' => ∃ u, r = .ok (.ret u) ∧ MkP X pins σ Q u s') T ip r1 hl (by rw [hl, sizeLine_eq]; omega) I1.kIn hlim ns (by have := hr.dp; omega)
  refine wpAny_call (codeAny_mono (mk fun h' tk' e d M => ⟨_, rfl, ?_⟩) fun r s' ⟨u, er, z⟩ => by subst er; exact z)
  obtain ⟨oe, fv, hoe, hc, hd, hdat, h1⟩ := M.obj
  have hns := M.ns
  obtain ⟨G', g1, g2⟩ := restrict h' fun b => decide (b ≠ e)
  have gk : ∀ b, b ≠ e → G'.get? b = h'.get? b := fun b hb => g1 b (decide_eq_true hb)
  have ge : G'.get? e = none := g2 e (by simp)
  have old : ∀ b o, hp.get? b = some o → G'.get? b = some o := fun b o q => (gk b (Nat.ne_of_lt (Nat.lt_of_lt_of_le (Heap.lt_size q) M.new))).trans (M.keep b o q)
  have ob : ObjOk X.prog X.w (upd H1 d (.xd (fl.zip vs).reverse)) G' d (.xd (fl.zip vs).reverse) :=
    ⟨_, hns.at (fun o q => (gk d M.dne).trans q), hrel⟩
  have J : Inv X pins σ (upd H1 d (.xd (fl.zip vs).reverse)) ⟨G', g, dr, tk', os⟩ := I1.laid (t' := tk') old M.dbig ob
  refine ⟨e, oe, fv, ⟨G', g, dr, tk', os⟩, _, .ref C, some d, rfl, J, fun b o q => ?_, ge, hoe, ⟨hc, hd⟩, hdat, h1, ?_, rfl, I1.bare, raises_own T.exC T.tyC, q1 d (I1.hok.fresh M.dbig)⟩
  · by_cases hb : b = e
    · have q' : G'.get? b = some o := q
      rw [hb, ge] at q'; cases q'
    · exact (gk b hb).symm.trans q
  · rw [upd_ne (Ne.symm M.dne)]
    exact I1.hok.fresh M.new
/-- raise C(..) -/
def sRaise (c : Nat) (fids : List Nat) (a : AD) : SD := fun σ g => (a σ g).fl σ fun ws g => if ws.length = fids.length then .ex c (fids.zip ws).reverse σ g else .bad
theorem rf_snoc {ρ H f n w v} (hn : T.fns[f]? = some n) (r : RW T ρ H w v) : ∀ {fs : List (Nat × W)} {vs : List (Str × V)}, RF T ρ H fs vs → RF T ρ H (fs ++ [(f, w)]) (vs ++ [(n, v)])
  | [], _, h => by
    have h : _ = [] := h
    subst h
    exact ⟨n, v, [], rfl, hn, r, rfl⟩
  | (k, x) :: fs, _, h => by
    obtain ⟨m, u, s, rfl, z, q, b⟩ := h
    exact ⟨m, u, _, rfl, z, q, rf_snoc hn r b⟩
theorem rf_zip {ρ H} : ∀ {fids : List Nat} {fl : List Str} {ws : List W} {vs : List V}, fids.map (fun i => T.fns[i]?) = fl.map some → RWs T ρ H ws vs → RF T ρ H (fids.zip ws).reverse (fl.zip vs).reverse
  | [], fl, ws, vs, h, r => by
    have : fl = [] := by simpa using h.symm
    subst this
    exact rfl
  | f :: fids, [], ws, vs, h, r => by simp at h
  | f :: fids, n :: fl, [], vs, h, r => by
    have r : vs = [] := by simpa only [RWs] using r
    subst r
    exact rfl
  | f :: fids, n :: fl, w :: ws, vs, h, r => by
    simp only [RWs] at r
    obtain ⟨v, s, rfl, a, b⟩ := r
    simp only [List.map_cons, List.cons.injEq] at h
    simp only [List.zip_cons_cons, List.reverse_cons]
    exact rf_snoc h.1 a (rf_zip h.2 b)
theorem ls_raise {e : Expr} {es : List Expr} {mas : AD} {p pos pos2 : Pos} {k c : Nat} {xn : Str} {fs fl : List Str} {fids : List Nat} (hcalm : X.calm = true) (TT : ExcT X.K X.mg C fI xn fs) (ip : InitP X.prog X.w X.K X.mg C fI fl) (hc : T.cls c = some C) (hfid : fids.map (fun i => T.fns[i]?) = fl.map some)
    (hfl : fl.length ≤ 100) (hr : Room (k + 1) X.A) (tk : Takes X Wx) (ha : PA X (e :: es) (LA T Wx mas)) (hg : Gl X xn := by rfl)
    (hdb : (xn == ("__debug__" : Str)) = false := by decide) (he : starEach (e :: es) X.env = (false, eval e X.env) :: starEach es X.env := by rfl) (hpl : (backTo pos (starEach es X.env)).any (·.1) = false := by rfl) :
    PS X (.Raise (some (.Call (.Name xn p) (e :: es) [] pos)) none pos2) (LS T Wx (sRaise c fids mas)) := (ps_raise hcalm tk (pmk_exc TT ip hfl hr ha hg hdb he hpl)).imp fun D σ H h => by
  obtain ⟨ρ, σw, g, hs, hg, he⟩ := h
  refine ⟨ρ, σw, g, hs, hg, EndS.ofR hs he fun ws g1 ρ1 H1 vs gr1 R1 rx he1 => ?_⟩
  have hlen : fids.length = fl.length := by simpa using congrArg List.length hfid
  split at he1
  · rename_i hl
    refine ⟨by rw [← rx.length, hl, hlen], fun d hd => ?_⟩
    have gr2 : Grow ρ1 H1 ρ1 (upd H1 d (.xd (fl.zip vs).reverse)) := grow_fresh hd
    exact he1 ρ1 _ σ C d _ gr2 (R1.extra hd) (hs.mono (gr1.trans gr2) _ _) hc upd_same ((rf_zip hfid rx).mono gr2 _ _)
  · exact he1.elim
end
end WL
end
section
set_option maxRecDepth 100000
set_option maxHeartbeats 1000000
namespace WL
open PySem PySem.Spec L2
open PyProof.Rows hiding St
set_option autoImplicit true
variable {T : Tab}
def Tab.at (T : Tab) (e : ExA) : Tab := { T with exa := some e }
mutual
theorem rw_at {e : ExA} {ρ H} : ∀ (w : W) (v : V), RW (T.at e) ρ H w v ↔ RW T ρ H w v
  | .non, v => by simp only [RW]
  | .bl b, v => by simp only [RW]
  | .int i, v => by simp only [RW]
  | .str x, v => by simp only [RW]
  | .tup ws, v => by
    simp only [RW]
    exact ⟨fun ⟨a, vs, h1, h2, h3⟩ => ⟨a, vs, h1, h2, (rws_at ws vs).mp h3⟩, fun ⟨a, vs, h1, h2, h3⟩ => ⟨a, vs, h1, h2, (rws_at ws vs).mpr h3⟩⟩
  | .ref l, v => by simp only [RW]
  | .ty n, v => by simp only [RW]
  | .opq, v => by simp only [RW]
  | .scr ns, v => by simp only [RW]; rfl
theorem rws_at {e : ExA} {ρ H} : ∀ (ws : List W) (vs : List V), RWs (T.at e) ρ H ws vs ↔ RWs T ρ H ws vs
  | [], vs => by simp only [RWs]
  | w :: ws, vs => by
    simp only [RWs]
    exact ⟨fun ⟨v, r, h1, h2, h3⟩ => ⟨v, r, h1, (rw_at w v).mp h2, (rws_at ws r).mp h3⟩, fun ⟨v, r, h1, h2, h3⟩ => ⟨v, r, h1, (rw_at w v).mpr h2, (rws_at ws r).mpr h3⟩⟩
end
theorem rf_at {e : ExA} {ρ H} : ∀ (ws : List (Nat × W)) (vs : List (Str × V)), RF (T.at e) ρ H ws vs ↔ RF T ρ H ws vs
  | [], vs => Iff.rfl
  | (f, w) :: ws, vs =>
    ⟨fun ⟨n, v, r, h0, h1, h2, h3⟩ => ⟨n, v, r, h0, h1, (rw_at w v).mp h2, (rf_at ws r).mp h3⟩, fun ⟨n, v, r, h0, h1, h2, h3⟩ => ⟨n, v, r, h0, h1, (rw_at w v).mpr h2, (rf_at ws r).mpr h3⟩⟩
theorem rd_at {κ : Type} {e : ExA} {ρ H} : ∀ (ws : List (κ × W)) (vs : List (κ × V)), RD (T.at e) ρ H ws vs ↔ RD T ρ H ws vs
  | [], vs => Iff.rfl
  | (f, w) :: ws, vs =>
    ⟨fun ⟨v, r, h0, h2, h3⟩ => ⟨v, r, h0, (rw_at w v).mp h2, (rd_at ws r).mp h3⟩, fun ⟨v, r, h0, h2, h3⟩ => ⟨v, r, h0, (rw_at w v).mpr h2, (rd_at ws r).mpr h3⟩⟩
theorem rs0_at {e : ExA} {ρ H} : ∀ (ws : Sg) (vs : St), RS0 (T.at e) ρ H ws vs ↔ RS0 T ρ H ws vs
  | [], vs => Iff.rfl
  | none :: ws, vs => ⟨fun ⟨v, r, h0, h3⟩ => ⟨v, r, h0, (rs0_at ws r).mp h3⟩, fun ⟨v, r, h0, h3⟩ => ⟨v, r, h0, (rs0_at ws r).mpr h3⟩⟩
  | some w :: ws, vs => ⟨fun ⟨v, r, h0, h2, h3⟩ => ⟨v, r, h0, (rw_at w v).mp h2, (rs0_at ws r).mp h3⟩, fun ⟨v, r, h0, h2, h3⟩ => ⟨v, r, h0, (rw_at w v).mpr h2, (rs0_at ws r).mpr h3⟩⟩
theorem clsw_at {e : ExA} {C : Addr} : ClsW (T.at e) C ↔ ClsW T C := ⟨fun h => ⟨h.cl, h.na⟩, fun h => ⟨h.cl, h.na⟩⟩
theorem ro_at {e : ExA} {ρ H o a} : RO (T.at e) ρ H o a ↔ RO T ρ H o a := by
  cases o with
  | lst ws => exact ⟨fun ⟨v, h, r⟩ => ⟨v, h, (rws_at _ _).mp r⟩, fun ⟨v, h, r⟩ => ⟨v, h, (rws_at _ _).mpr r⟩⟩
  | dK ws => exact ⟨fun ⟨v, h, r, n⟩ => ⟨v, h, (rd_at _ _).mp r, n⟩, fun ⟨v, h, r, n⟩ => ⟨v, h, (rd_at _ _).mpr r, n⟩⟩
  | dT ws => exact ⟨fun ⟨v, h, r, n⟩ => ⟨v, h, (rd_at _ _).mp r, n⟩, fun ⟨v, h, r, n⟩ => ⟨v, h, (rd_at _ _).mpr r, n⟩⟩
  | ins c fs => exact ⟨fun ⟨C, dx, vs, h1, h2, h3, r⟩ => ⟨C, dx, vs, h1, clsw_at.mp h2, h3, (rf_at _ _).mp r⟩, fun ⟨C, dx, vs, h1, h2, h3, r⟩ => ⟨C, dx, vs, h1, clsw_at.mpr h2, h3, (rf_at _ _).mpr r⟩⟩
theorem rg_at {e : ExA} {ρ H g} : RG (T.at e) ρ H g ↔ RG T ρ H g := ⟨fun h => ⟨h.nd, h.len, fun l o a h1 h2 => ro_at.mp (h.obj l o a h1 h2)⟩, fun h => ⟨h.nd, h.len, fun l o a h1 h2 => ro_at.mpr (h.obj l o a h1 h2)⟩⟩
def getB (c : Nat) : List (Nat × Bool) → Option Bool
  | [] => none
  | (k, b) :: r => if k = c then some b else getB c r
def offS (i : Nat) : Fl → Fl
  | .nx σ g => .nx (σ.set i none) g
  | .bk σ g => .bk (σ.set i none) g
  | .ct σ g => .ct (σ.set i none) g
  | .rt w g => .rt w g
  | _ => .bad
/-- cov: what the clause's class says of the classes -/
def sTry (cov : List (Nat × Bool)) (i : Nat) (body : SD) (suite : Nat → List (Nat × W) → SD) : SD := fun σ g => match body σ g with
  | .ex c fs σ' g' => match getB c cov with
    | some true => if i < σ'.length then offS i (suite c fs (σ'.set i (some .opq)) g') else .bad
    | some false => .ex c fs σ' g'
    | none => .bad
  | r => r
abbrev Wno : WX := fun _ _ _ _ => False
def tSuite (T : Tab) (i : Nat) (suite : Nat → List (Nat × W) → SD) : Addr → Value → Option Addr → TS := fun a cls d D σ H => ∃ C dd c fs, cls = .ref C ∧ d = some dd ∧ T.cls c = some C ∧ LS (T.at ⟨a, i, dd, c, fs⟩) Wno (suite c fs) D σ H
theorem offS_end {T : Tab} [NoEx T] {Wx : WX} {D : Ends} {ρ H ex i} {r : Fl} (h : EndS T Wx D ρ H (offS i r)) :
    EndS (T.at ex) Wno { nx := fun σ' H' => D.nx (σ'.set i none) H', rt := D.rt, bk := fun σ' H' => D.bk (σ'.set i none) H', ct := fun σ' H' => D.ct (σ'.set i none) H' } ρ H r := by
  have un : ∀ {ρ' H' σw σ}, RS (T.at ex) ρ' H' σw σ → RS T ρ' H' (σw.set i none) (σ.set i none) := fun h => ⟨((rs0_at _ _).mp h.1).unset i, .no⟩
  cases r with
  | nx σ g => exact fun ρ' H' σ2 gr R r => h ρ' H' _ gr (rg_at.mp R) (un r)
  | rt w g => exact fun ρ' H' v gr R r => h ρ' H' v gr (rg_at.mp R) ((rw_at _ _).mp r)
  | bk σ g => exact fun ρ' H' σ2 gr R r => h ρ' H' _ gr (rg_at.mp R) (un r)
  | ct σ g => exact fun ρ' H' σ2 gr R r => h ρ' H' _ gr (rg_at.mp R) (un r)
  | ex c fs σ g => exact h.elim
  | bad => exact h.elim
theorem set_self {α : Type} {l : List α} {i : Nat} {x : α} (h : i < l.length) : (l.set i x)[i]? = some x := by simp [h]
section
variable {X : Cx} {Wx : WX} {x n : Str} {c0 : Value} {i : Nat} {body suite : List Stmt} {b₀ : Stmt} {np pos pos' : Pos} {mb : SD} {ms : Nat → List (Nat × W) → SD} {cov : List (Nat × Bool)}
theorem lift_try [NoEx T] {K : PySem.W.Frag} {D σ H} (hcov : ∀ c b C, getB c cov = some b → T.cls c = some C → PySem.W.exmOne K (.ref C) c0 = some b) (h : LS T Wx (sTry cov i mb ms) D σ H) : LS T (wAs K c0 i (tSuite T i ms) Wx D) mb D σ H := by
  obtain ⟨ρ, σw, g, hs, hg, he⟩ := h
  refine ⟨ρ, σw, g, hs, hg, ?_⟩
  unfold sTry at he
  cases hb : mb σw g with
  | ex c fs σ' g' =>
    rw [hb] at he
    dsimp only at he
    intro ρ' H' σ2 C d vs gr R rs hc hd hf
    cases hg : getB c cov with
    | none => rw [hg] at he; exact he.elim
    | some b =>
      rw [hg] at he
      refine ⟨b, hcov c b C hg hc, fun hbt a na => ?_, fun hbf => ?_⟩
      · subst hbt
        dsimp only at he
        split at he
        · rename_i hi
          refine ⟨C, d, c, fs, rfl, rfl, hc, ρ', _, g', ⟨(rs0_at _ _).mpr (rs.1.set (w := .opq) (v := .ref a) (by simp only [RW]) i), fun p hp => ?_⟩, rg_at.mpr R, offS_end (EndS.base gr he)⟩
          cases hp
          exact ⟨set_self (by rw [← rs.length]; exact hi), vs, hd, (rf_at _ _).mpr hf⟩
        · exact he.elim
      · subst hbf
        exact he ρ' H' σ2 C d vs gr R rs hc hd hf
  | nx σ g => rw [hb] at he; exact he
  | rt w g => rw [hb] at he; exact he
  | bk σ g => rw [hb] at he; exact he
  | ct σ g => rw [hb] at he; exact he
  | bad => rw [hb] at he; exact he.elim
theorem ls_try [NoEx T] (i : Nat) (hcov : ∀ c b C, getB c cov = some b → T.cls c = some C → PySem.W.exmOne X.K (.ref C) c0 = some b) (hN : X.N.Nodup) (hc : Names X x c0) (tk : Takes X Wx)
    (hb : ∀ (W : WX) (pn : List (Addr × Obj)) (xe : Value → Shared → Prop), Takes (X.tr pn xe) W → PassesOwn (model X.prog X.w) X.A X.env xe → PSs (X.tr pn xe) body (LS T W mb))
    (hsu : ∀ (a : Addr) (oe : Obj) (C dd : Addr) (c : Nat) (fs : List (Nat × W)) (pn : List (Addr × Obj)), Zc (.ref C) (some dd) oe → (∃ vs, oe.data = .fields vs) → T.cls c = some C → PSs (X.suite a ((a, oe) :: pn)) (b₀ :: suite) (LS (T.at ⟨a, i, dd, c, fs⟩) Wno (ms c fs)))
    (hs : X.stack = X.env :: X.outer := by rfl) (hf : X.env.frame = some X.env.locals := by rfl) (hi : X.N[i]? = some n := by rfl) (hln : X.env.kindOf n = some .local := by rfl) :
    PS X (.Try body [.ExceptHandler (some (.Name x np)) (some n) (b₀ :: suite) pos'] [] [] pos) (LS T Wx (sTry cov i mb ms)) := by
  refine (ps_try_as (tb := fun W => LS T W mb) (ts := tSuite T i ms) (Wout := Wx) hs hf hN hi hln hc tk hb fun a oe cls d pn hz hff => ?_).imp fun D σ H h => lift_try hcov h
  refine ⟨fun pins s σ H D I h => ?_⟩
  obtain ⟨C, dd, c, fs, rfl, rfl, hcc, h⟩ := h
  exact (hsu a oe C dd c fs pn hz hff hcc).run pins s σ H D I h
variable {a C dd : Addr} {oe : Obj} {pn : List (Addr × Obj)} {c : Nat} {fs : List (Nat × W)}
/-- ok: the classes whose instances are asked for the field -/
def eXf (c : Nat) (ok : List Nat) (f : Nat) (fs : List (Nat × W)) : ED := fun σ g => if ok.contains c then (match getW f fs with
  | some w => .ok w g
  | none => .bad) else .bad
def OkX (K : PySem.W.Frag) (T : Tab) (nm : Str) (ok : List Nat) : Prop := ∀ c C, ok.contains c = true → T.cls c = some C → PySem.W.findIn K (.ref C) nm = some none ∧ XfC K C
theorem OkX.nil {K nm} : OkX K T nm [] := fun c C h => by simp at h
theorem OkX.cons {K nm c ok} (h : ∀ C, T.cls c = some C → PySem.W.findIn K (.ref C) nm = some none ∧ XfC K C) (r : OkX K T nm ok) : OkX K T nm (c :: ok) := fun c' C hc e => by
  by_cases q : c' = c
  · subst q; exact h C e
  · exact r c' C (by simpa [q] using hc) e
theorem le_xf {ok : List Nat} {f : Nat} {nm : Str} {ep : Pos} (hok : OkX X.K T nm ok) (hcl : T.cls c = some C) (hn : T.fns[f]? = some nm) (hz : Zc (.ref C) (some dd) oe) (hf : ∃ vs, oe.data = .fields vs)
    (hi : (X.suite a ((a, oe) :: pn)).N[i]? = some n := by rfl) (hv : Vis (X.suite a ((a, oe) :: pn)).env.scope n := by first | exact Or.inl rfl | exact Or.inr (Or.inl rfl) | exact Or.inr (Or.inr rfl)) (hd : (n == ("__debug__" : Str)) = false := by decide) (hcd : (n == ("__classdict__" : Str)) = false := by decide)
    (hb : attributeBase (.Name n ep) nm X.env (eval (.Name n ep) X.env) = eval (.Name n ep) X.env := by rfl) :
    PE (X.suite a ((a, oe) :: pn)) (.Attribute (.Name n ep) nm pos) (LE (T.at ⟨a, i, dd, c, fs⟩) Wno (eXf c ok f fs)) := by
  cases hc : ok.contains c with
  | false =>
    refine ⟨fun pins s σ H Q I h => ?_⟩
    obtain ⟨ρ, σw, g, hs, hg, he⟩ := h
    unfold eXf at he
    rw [hc] at he
    exact he.elim
  | true =>
    obtain ⟨hno, xc⟩ := hok c C hc hcl
    exact (pe_xf xc hno hz hf (pe_var hi hv hd hcd) hb).imp fun σ H Q h => by
      obtain ⟨ρ, σw, g, hs, hg, he⟩ := h
      obtain ⟨e1, vs, e2, rf⟩ := hs.2 _ rfl
      refine ⟨.ref a, e1, rfl, rfl, dd, vs, ?_⟩
      unfold eXf at he
      rw [hc, if_pos rfl] at he
      cases hw : getW f fs with
      | none => rw [hw] at he; exact he.elim
      | some w =>
        rw [hw] at he
        obtain ⟨v, hv, rv⟩ := rf.lookup (n := nm) hn hw
        exact ⟨v, rfl, e2, hv, he ρ H v .refl hg rv⟩
/-- what the written part must say of an exception's class for isinstance -/
def IsE (K : PySem.W.Frag) (C : Addr) (cv : Value) (b : Bool) : Prop := ExcC K C ∧ PySem.W.kitOne K (.ref C) cv = some b
def rIsX (K : PySem.W.Frag) (C a dd : Addr) : List V → Hp → VK → Prop := fun xs H Q => ∃ (c : V) (cv : Value) (b : Bool) (vs : List (Str × V)), xs = [.ref a, c] ∧ (∀ u, RelV c u → u = cv) ∧ PySem.W.kitOne K (.ref C) cv = some b ∧ H dd = some (.xd vs) ∧ Q (.bl b) H
theorem call_isX (E : ExcC X.K C) (hz : Zc (.ref C) (some dd) oe) (hf : ∃ vs, oe.data = .fields vs) : CallR (X.suite a ((a, oe) :: pn)) (.builtin "isinstance") (rIsX X.K C a dd) := by
  intro pins s σ H xs us Q I r h
  obtain ⟨c, cv, b, vs, rfl, hcv, e, ed, q⟩ := h
  cases r with
  | cons rx rr =>
    cases rr with
    | cons rt rr =>
      cases rr
      cases rx
      have ec := hcv _ rt
      subst ec
      obtain ⟨hget, _⟩ := I.pin (a, oe) (List.mem_append.mpr (.inl List.mem_cons_self))
      obtain ⟨us', hv⟩ := hf
      have hx : ObjOk X.prog X.w H s.heap dd (.xd vs) := I.hok dd _ ed
      obtain ⟨mA, hns, hr⟩ := hx
      obtain ⟨od, ho, hl⟩ := lookIn_ns hns
      have J : PySem.W.InstAt s.heap a oe C (some od) := ⟨hget, hz.1, by unfold PySem.W.notCls; rw [hv] <;> rfl, by rw [hz.2]; exact ho⟩
      have hcl : (PySem.W.clsIn X.K C).isSome = true := by
        obtain ⟨cd, hc, _⟩ := PySem.W.any_some E.hd
        rw [hc]; rfl
      exact PySem.W.kia_one (PySem.W.kitx_exc hcl E.hg E.hk E.hs E.ha E.hn E.ht E.hm) I.kIn J e (fun z => nomatch z) fun tk => ⟨.bl b, H, I.kept (t' := tk) fun _ _ z => z, rfl, q⟩
def eXi (c : Nat) (tab : List (Nat × Bool)) : ED := fun σ g => match getB c tab with
  | some b => .ok (.bl b) g
  | none => .bad
def IsX (K : PySem.W.Frag) (T : Tab) (cv : Value) (tab : List (Nat × Bool)) : Prop := ∀ c b C, getB c tab = some b → T.cls c = some C → ExcC K C ∧ PySem.W.kitOne K (.ref C) cv = some b
theorem IsX.nil {K cv} : IsX K T cv [] := fun c b C h => by cases h
theorem IsX.cons {K cv c b tab} (h : ∀ C, T.cls c = some C → ExcC K C ∧ PySem.W.kitOne K (.ref C) cv = some b) (r : IsX K T cv tab) : IsX K T cv ((c, b) :: tab) := fun c' b' C hg hc => by
  simp only [getB] at hg
  split at hg
  · rename_i e
    subst e
    cases hg
    exact h C hc
  · exact r c' b' C hg hc
def CovX (K : PySem.W.Frag) (T : Tab) (c0 : Value) (cov : List (Nat × Bool)) : Prop := ∀ c b C, getB c cov = some b → T.cls c = some C → PySem.W.exmOne K (.ref C) c0 = some b
theorem CovX.nil {K cv} : CovX K T cv [] := fun c b C h => by cases h
theorem CovX.cons {K cv c b tab} (h : ∀ C, T.cls c = some C → PySem.W.exmOne K (.ref C) cv = some b) (r : CovX K T cv tab) : CovX K T cv ((c, b) :: tab) := fun c' b' C hg hc => by
  simp only [getB] at hg
  split at hg
  · rename_i e
    subst e
    cases hg
    exact h C hc
  · exact r c' b' C hg hc
theorem le_xi {tab : List (Nat × Bool)} {ep ip : Pos} {ce : Expr} {vc : V} {cv : Value} (hcl : PE (X.suite a ((a, oe) :: pn)) ce (tC vc)) (hcv : ∀ u, RelV vc u → u = cv) (hk : IsX X.K T cv tab) (hcc : T.cls c = some C) (hm : X.mg "isinstance" = none)
    (hz : Zc (.ref C) (some dd) oe) (hf : ∃ vs, oe.data = .fields vs)
    (hg : Gl X "isinstance" := by rfl)
    (hi : (X.suite a ((a, oe) :: pn)).N[i]? = some n := by rfl) (hv : Vis (X.suite a ((a, oe) :: pn)).env.scope n := by first | exact Or.inl rfl | exact Or.inr (Or.inl rfl) | exact Or.inr (Or.inr rfl)) (hd : (n == ("__debug__" : Str)) = false := by decide) (hcd : (n == ("__classdict__" : Str)) = false := by decide)
    (he : starEach [.Name n ep, ce] X.env = (false, eval (.Name n ep) X.env) :: starEach [ce] X.env := by rfl) (he2 : starEach [ce] X.env = (false, eval ce X.env) :: starEach [] X.env := by rfl) (hpl : (backTo pos (starEach [ce] X.env)).any (·.1) = false := by rfl) :
    PE (X.suite a ((a, oe) :: pn)) (.Call (.Name "isinstance" ip) [.Name n ep, ce] [] pos) (LE (T.at ⟨a, i, dd, c, fs⟩) Wno (eXi c tab)) := by
  cases hw : getB c tab with
  | none =>
    refine ⟨fun pins s σ H Q I h => ?_⟩
    obtain ⟨ρ, σw, g, hs, hg, he⟩ := h
    unfold eXi at he
    rw [hw] at he
    exact he.elim
  | some b =>
    obtain ⟨E, hkk⟩ := hk c b C hw hcc
    exact (pe_callB (X := X.suite a ((a, oe) :: pn)) (call_isX E hz hf) hg hm PyProof.Rows.Boot.«isinstance» (pa_cons (pe_var hi hv hd hcd) (pa_cons hcl pa_nil he2) he) (by decide) (by decide) he hpl).imp fun σ H Q h => by
      obtain ⟨ρ, σw, g, hs, hg, he⟩ := h
      obtain ⟨e1, vs, e2, rf⟩ := hs.2 _ rfl
      unfold eXi at he
      rw [hw] at he
      exact ⟨.ref a, e1, vc, cv, b, vs, rfl, hcv, hkk, e2, he ρ H (.bl b) .refl hg (by simp only [RWr, RW])⟩
end
end WL
end
section
set_option maxRecDepth 100000
namespace WL
open PySem PySem.Spec L2
open PyProof.Rows hiding St
set_option autoImplicit true
variable {T : Tab} [NoEx T]
section
variable {X : Cx} {Wx : WX} {pos : Pos} {e : Expr}
theorem lc_loop {J : Items} {Jt : It} {ρ1 : List Addr} {H1 : Hp} {σw : Sg} {σ : St} {own : List Nat} {L : Nat} {D : Addr} {g : G} {tg : GD} {tt : TD} {te : ED} {P : Hp → Prop} {ρ0 : List Addr} {H0 : Hp} (rel : ItRel T ρ1 H1 J Jt) (hs0 : RS T ρ1 H1 σw σ) (gr0 : Grow ρ1 H1 ρ0 H0) (R0 : RG T ρ0 H0 g) (hL0 : ρ0[L]? = some D)
    (he0 : EndU T ρ0 H0 P (lcGo J tg tt te own σw L J.ws g)) :
    ∃ W : Nat → Nat → Hp → Prop, (∃ m, W 0 m H0) ∧ ∀ i m H, W i m H → (Jt.stop i H ∧ P H) ∨ (Jt.go i H ∧ ∃ Nx : Hp → Prop, (∀ H', Nx H' → ∃ m', m' < m ∧ W (i + 1) m' H') ∧ ∀ x H', Jt.yld i H x H' →
      LC T own tg x (wipe σ own) H' fun σ2 H2 => wipe σ2 own = wipe σ own ∧ LTs T tt σ2 H2 fun b H3 => if b = true then LE T W0 te σ2 H3 fun y H4 => ∃ acc, H4 D = some (.lst acc) ∧ acc.length < sizeLine ∧ Nx (upd H4 D (.lst (acc ++ [y]))) else Nx H3) := by
  refine ⟨fun i m H => ∃ ρ g, Grow ρ0 H0 ρ H ∧ RG T ρ H g ∧ m = (J.ws.drop i).length ∧ EndU T ρ H P (lcGo J tg tt te own σw L (J.ws.drop i) g), ⟨_, ρ0, g, .refl, R0, rfl, by simpa using he0⟩, ?_⟩
  rintro i m H ⟨ρ, g, gr, hg, rfl, he⟩
  have grJ := gr0.trans gr
  have hs : RS T ρ H σw σ := hs0.mono grJ _ _
  cases hd : J.ws.drop i with
  | nil =>
    rw [hd] at he
    simp only [lcGo] at he
    split at he
    · rename_i hst
      exact .inl ⟨rel.stop ρ H g i grJ hg hst (by simpa using hd), he ρ H .refl hg⟩
    · exact he.elim
  | cons w ws =>
    rw [hd] at he
    simp only [lcGo] at he
    split at he
    · rename_i hst
      have hw : J.ws[i]? = some w := by
        have : (J.ws.drop i)[0]? = some w := by rw [hd]; rfl
        simpa using this
      have hws : J.ws.drop (i + 1) = ws := by
        have : (J.ws.drop i).drop 1 = ws := by rw [hd]; rfl
        rw [List.drop_drop] at this
        exact this
      refine .inr ⟨rel.go ρ H g i w grJ hg hst hw, fun H => ∃ ρ g, Grow ρ0 H0 ρ H ∧ RG T ρ H g ∧ EndU T ρ H P (lcGo J tg tt te own σw L ws g), fun H' ⟨ρ, g, a, b, c⟩ => ?_, fun x H' y => ?_⟩
      · exact ⟨ws.length, by simp, ρ, g, a, b, by rw [hws], by rw [hws]; exact c⟩
      · obtain ⟨ρ2, gr2, R2, rw2⟩ := rel.yld ρ H g i w x H' grJ hg hst hw y
        have hs2 := wipe_rs (hs.mono gr2 _ _) own
        refine ⟨ρ2, w, wipeW σw own, g, rw2, hs2, R2, ?_⟩
        have he := EndU.base gr2 he
        have go2 := gr.trans gr2
        cases htg : tg w (wipeW σw own) g with
        | ok σ2 g2 =>
          rw [htg] at he
          dsimp only at he
          intro ρ3 H3 σ3 gr3 R3 ⟨rs3, wp3⟩
          refine ⟨by rw [wp3, wipe_wipe], ρ3, σ2, g2, rs3, R3, ?_⟩
          have he := EndU.base gr3 he
          have go3 := go2.trans gr3
          cases htt : tt σ2 g2 with
          | ok b g3 =>
            rw [htt] at he
            intro ρ4 H4 b' gr4 R4 eb
            subst eb
            have he := EndU.base gr4 he
            have go4 := go3.trans gr4
            cases b with
            | false => rw [if_neg Bool.false_ne_true]; exact ⟨ρ4, g3, go4, R4, he⟩
            | true =>
              rw [if_pos rfl]
              dsimp only at he
              refine ⟨ρ4, σ2, g3, rs3.mono gr4 _ _, R4, ?_⟩
              cases hte : te σ2 g3 with
              | ok z g4 =>
                rw [hte] at he
                intro ρ5 H5 v gr5 R5 rz
                have he := EndU.base gr5 he
                have go5 := go4.trans gr5
                dsimp only at he
                split at he
                · rename_i g5 ha
                  obtain ⟨acc, h1, h2, gr6, R6⟩ := appL_ok R5 (go5.pre L D hL0) rz ha
                  exact ⟨acc, h1, h2, ρ5, g5, go5.trans gr6, R6, EndU.base gr6 he⟩
                · exact he.elim
              | ex c fs g4 => rw [hte] at he; exact he.elim
              | bad => rw [hte] at he; exact he.elim
          | ex c fs g3 => rw [htt] at he; exact he.elim
          | bad => rw [htt] at he; exact he.elim
        | ex c fs g2 => rw [htg] at he; exact he.elim
        | bad => rw [htg] at he; exact he.elim
    · exact he.elim
def lc2Go (J : Items) (tg : GD) (tt : TD) (i1 : ID) (tg1 : GD) (tt1 : TD) (te : ED) (own vs1 : List Nat) (σ : Sg) (L : Nat) : List W → G → Out Unit
  | [], g => if still J g then .ok () g else .bad
  | w :: ws, g => if still J g then match tg w (wipeW σ own) g with
    | .ok σ2 g2 => match tt σ2 g2 with
      | .ok true g3 => match i1 σ2 g3 with
        | .ok J1 g4 => match lcGo J1 tg1 tt1 te vs1 σ2 L J1.ws g4 with
          | .ok _ g5 => lc2Go J tg tt i1 tg1 tt1 te own vs1 σ L ws g5
          | _ => .bad
        | _ => .bad
      | .ok false g3 => lc2Go J tg tt i1 tg1 tt1 te own vs1 σ L ws g3
      | _ => .bad
    | _ => .bad else .bad
def eLc2 (i : ID) (tg : GD) (tt : TD) (i1 : ID) (tg1 : GD) (tt1 : TD) (te : ED) (own vs1 : List Nat) : ED := fun σ g => (i σ g).bind fun J g1 => match lc2Go J tg tt i1 tg1 tt1 te own vs1 σ g1.length J.ws (g1 ++ [.lst []]) with
  | .ok _ g2 => .ok (.ref g1.length) g2
  | _ => .bad
theorem lift_lc2 {i i1 : ID} {tg tg1 : GD} {tt tt1 : TD} {te : ED} {own vs1 : List Nat} {σ H Q} (h : LE T Wx (eLc2 i tg tt i1 tg1 tt1 te own vs1) σ H Q) :
    tLc2 (LI T Wx i) (LC T own tg) (LTs T tt) (LI T W0 i1) (LC T vs1 tg1) (LTs T tt1) (LE T W0 te) own vs1 σ H Q := by
  obtain ⟨ρ0, σw, g0, hs0, hg0, he0⟩ := h
  refine ⟨ρ0, σw, g0, hs0, hg0, EndR.bind he0 fun J g1 ρ1 H1 Jt gr1 R1 rel he1 => ?_⟩
  intro D hD
  have he2 : EndU T (ρ1 ++ [D]) (upd H1 D (.lst [])) (fun H' => Q (.ref D) H') (lc2Go J tg tt i1 tg1 tt1 te own vs1 σw g1.length J.ws (g1 ++ [.lst []])) := by
    cases hr : lc2Go J tg tt i1 tg1 tt1 te own vs1 σw g1.length J.ws (g1 ++ [.lst []]) with
    | ok a g2 =>
      rw [hr] at he1
      intro ρ' H' gr R
      refine he1 ρ' H' (.ref D) ((grow_new hD).trans gr) R ?_
      simp only [RWr, RW]
      exact ⟨D, gr.pre _ _ (by rw [← R1.len]; simp), rfl⟩
    | _ => rw [hr] at he1; exact he1.elim
  refine ⟨fun i m H => ∃ ρ g, Grow (ρ1 ++ [D]) (upd H1 D (.lst [])) ρ H ∧ RG T ρ H g ∧ m = (J.ws.drop i).length ∧ EndU T ρ H (fun H' => Q (.ref D) H') (lc2Go J tg tt i1 tg1 tt1 te own vs1 σw g1.length (J.ws.drop i) g),
    ⟨_, ρ1 ++ [D], g1 ++ [.lst []], .refl, new_lst R1 hD RWs.nil, rfl, by simpa using he2⟩, ?_⟩
  rintro i m H ⟨ρ, g, gr, hg, rfl, he⟩
  have grJ := (grow_new (o := .lst []) hD).trans gr
  have hs : RS T ρ H σw σ := hs0.mono (gr1.trans grJ) _ _
  have hL : ρ[g1.length]? = some D := gr.pre _ _ (by rw [← R1.len]; simp)
  cases hd : J.ws.drop i with
  | nil =>
    rw [hd] at he
    simp only [lc2Go] at he
    split at he
    · rename_i hst
      exact .inl ⟨rel.stop ρ H g i grJ hg hst (by simpa using hd), he ρ H .refl hg⟩
    · exact he.elim
  | cons w ws =>
    rw [hd] at he
    simp only [lc2Go] at he
    split at he
    · rename_i hst
      have hw : J.ws[i]? = some w := by
        have : (J.ws.drop i)[0]? = some w := by rw [hd]; rfl
        simpa using this
      have hws : J.ws.drop (i + 1) = ws := by
        have : (J.ws.drop i).drop 1 = ws := by rw [hd]; rfl
        rw [List.drop_drop] at this
        exact this
      refine .inr ⟨rel.go ρ H g i w grJ hg hst hw, fun H => ∃ ρ g, Grow (ρ1 ++ [D]) (upd H1 D (.lst [])) ρ H ∧ RG T ρ H g ∧ EndU T ρ H (fun H' => Q (.ref D) H') (lc2Go J tg tt i1 tg1 tt1 te own vs1 σw g1.length ws g), fun H' ⟨ρ, g, a, b, c⟩ => ?_, fun x H' y => ?_⟩
      · exact ⟨ws.length, by simp, ρ, g, a, b, by rw [hws], by rw [hws]; exact c⟩
      · obtain ⟨ρ2, gr2, R2, rw2⟩ := rel.yld ρ H g i w x H' grJ hg hst hw y
        have hs2 := wipe_rs (hs.mono gr2 _ _) own
        refine ⟨ρ2, w, wipeW σw own, g, rw2, hs2, R2, ?_⟩
        have he := EndU.base gr2 he
        have go2 := gr.trans gr2
        cases htg : tg w (wipeW σw own) g with
        | ok σ2 g2 =>
          rw [htg] at he
          dsimp only at he
          intro ρ3 H3 σ3 gr3 R3 ⟨rs3, wp3⟩
          refine ⟨by rw [wp3, wipe_wipe], ρ3, σ2, g2, rs3, R3, ?_⟩
          have he := EndU.base gr3 he
          have go3 := go2.trans gr3
          cases htt : tt σ2 g2 with
          | ok b g3 =>
            rw [htt] at he
            intro ρ4 H4 b' gr4 R4 eb
            subst eb
            have he := EndU.base gr4 he
            have go4 := go3.trans gr4
            cases b with
            | false => rw [if_neg Bool.false_ne_true]; exact ⟨ρ4, g3, go4, R4, he⟩
            | true =>
              rw [if_pos rfl]
              dsimp only at he
              refine ⟨ρ4, σ2, g3, rs3.mono gr4 _ _, R4, ?_⟩
              cases hi1 : i1 σ2 g3 with
              | ok J1 g4 =>
                rw [hi1] at he
                intro ρ5 H5 Jt1 gr5 R5 rel1
                have he := EndU.base gr5 he
                have go5 := go4.trans gr5
                dsimp only at he
                refine lc_loop rel1 ((rs3.mono gr4 _ _).mono gr5 _ _) .refl R5 (go5.pre g1.length D (show (ρ1 ++ [D])[g1.length]? = some D by rw [← R1.len]; simp)) ?_
                cases hin : lcGo J1 tg1 tt1 te vs1 σ2 g1.length J1.ws g4 with
                | ok u g5 =>
                  rw [hin] at he
                  exact fun ρ' H' gr6 R6 => ⟨ρ', g5, go5.trans gr6, R6, EndU.base gr6 he⟩
                | _ => rw [hin] at he; exact he.elim
              | ex c fs g4 => rw [hi1] at he; exact he.elim
              | bad => rw [hi1] at he; exact he.elim
          | ex c fs g3 => rw [htt] at he; exact he.elim
          | bad => rw [htt] at he; exact he.elim
        | ex c fs g2 => rw [htg] at he; exact he.elim
        | bad => rw [htg] at he; exact he.elim
    · exact he.elim
theorem le_lc2 (vs1 : List Nat) {elt tg iter tg1 iter1 : Expr} {ifs ifs1 : List Expr} {scope : Scope} {own : List (Str × Nat)} {i i1 : ID} {g g1 : GD} {tt tt1 : TD} {te : ED} (hc : X.calm = true) (hN : X.N.Nodup) (hi : PI X tg iter (LI T Wx i)) (ok : BlkOk X.N X.env.scope scope own) (hv : ∀ i ∈ vs1, i ∈ own.map (·.2))
    (hg : ∀ (s : Shared) (H : Hp) (C : Addr) (cl : List (Str × Addr)) (fp : List Addr), PG (X.blk s H scope (compEnvC scope cl C X.env) fp) tg (LC T (own.map (·.2)) g)) (ht : ∀ (s : Shared) (H : Hp) (C : Addr) (cl : List (Str × Addr)) (fp : List Addr), PTs (X.blk s H scope (compEnvC scope cl C X.env) fp) ifs (LTs T tt))
    (hi1 : ∀ (s : Shared) (H : Hp) (C : Addr) (cl : List (Str × Addr)) (fp : List Addr), PI (X.blk s H scope (compEnvC scope cl C X.env) fp) tg1 iter1 (LI T W0 i1))
    (hg1 : ∀ (s : Shared) (H : Hp) (C : Addr) (cl : List (Str × Addr)) (fp : List Addr), PG (X.blk s H scope (compEnvC scope cl C X.env) fp) tg1 (LC T vs1 g1)) (ht1 : ∀ (s : Shared) (H : Hp) (C : Addr) (cl : List (Str × Addr)) (fp : List Addr), PTs (X.blk s H scope (compEnvC scope cl C X.env) fp) ifs1 (LTs T tt1))
    (he : ∀ (s : Shared) (H : Hp) (C : Addr) (cl : List (Str × Addr)) (fp : List Addr), PE (X.blk s H scope (compEnvC scope cl C X.env) fp) elt (LE T W0 te)) (hs : ∀ x, foldedSetIterable iter X.env x = pure x := by intro _; rfl) (hs1 : ∀ env x, foldedSetIterable iter1 env x = pure x := by intro _ _; rfl) :
    PE X (.ListComp elt [⟨tg, iter, ifs, 0⟩, ⟨tg1, iter1, ifs1, 0⟩] scope pos) (LE T Wx (eLc2 i g tt i1 g1 tt1 te (own.map (·.2)) vs1)) := (pe_lc2 hc hN hi ok hv hg ht hi1 hg1 ht1 he hs hs1).imp fun _ _ _ h => lift_lc2 h
/-- *e in a display or a call -/
def aStar (a : ED) (r : AD) : AD := fun σ g => (a σ g).bind fun x g => match seqAt g x with
  | some xs => (r σ g).bind fun ys g => .ok (xs ++ ys) g
  | none => .bad
theorem la_star {e : Expr} {es : List Expr} {ma : ED} {mr : AD} {p : Pos} (hK : X.K = T.K) (ha : PE X e (LE T Wx ma)) (hr : PA X es (LA T Wx mr)) (hs : starEach (.Starred e p :: es) X.env = (true, eval e X.env) :: starEach es X.env := by rfl) : PA X (.Starred e p :: es) (LA T Wx (aStar ma mr)) :=
  (StX.pa_star ha hr hs).imp fun σ H Q h => by
    obtain ⟨ρ, σw, g, hs, hg, he⟩ := h
    refine ⟨ρ, σw, g, hs, hg, EndR.bind he fun x g1 ρ1 H1 vx gr1 R1 rx he1 => ?_⟩
    cases hx : seqAt g1 x with
    | none => rw [hx] at he1; exact he1.elim
    | some xs =>
      rw [hx] at he1
      obtain ⟨a, vs, rfl, hq, rr⟩ := seqAt_ok R1 rx hx
      refine ⟨a, vs, rfl, by rw [hK]; exact hq.symm, ρ1, σw, g1, hs.mono gr1 _ _, R1, EndR.bind he1 fun ys g2 ρ2 H2 us gr2 R2 ry he2 => ?_⟩
      exact he2 ρ2 H2 _ .refl R2 ((rr.mono gr2 _ _).append ry)
/-- {} -/
def eDict0T : ED := fun _ g => .ok (.ref g.length) (g ++ [.dT []])
def eDict0K : ED := fun _ g => .ok (.ref g.length) (g ++ [.dK []])
theorem le_dict0T : PE X (.Dict [] [] pos) (LE T Wx eDict0T) := pe_dnewT.imp fun σ H Q h => by
  obtain ⟨ρ, σw, g, hs, hg, he⟩ := h
  exact fun p hp => he _ _ _ (grow_new hp) (hg.new (u := .dT []) hp ⟨[], upd_same, rfl, by simp⟩) (ref_new hg)
theorem le_dict0K : PE X (.Dict [] [] pos) (LE T Wx eDict0K) := pe_dnewK.imp fun σ H Q h => by
  obtain ⟨ρ, σw, g, hs, hg, he⟩ := h
  exact fun p hp => he _ _ _ (grow_new hp) (hg.new (u := .dK []) hp ⟨[], upd_same, rfl, by simp⟩) (ref_new hg)
end
end WL
end
section
set_option maxRecDepth 100000
set_option maxHeartbeats 1000000
namespace WL
open PySem PySem.Spec L2
open PyProof.Rows hiding St
set_option autoImplicit true
variable {T : Tab}
/-- the class's __iter__ -/
structure IterC (K : PySem.W.Frag) (C fI : Addr) (F : Str) : Prop where
  it : PySem.W.findIn K (.ref C) "__iter__" = some (some (.ref fI))
  itF : PySem.W.isFn K (.ref fI) = true
  fn : ∃ (qual : Str) (args : Arguments) (scope : Scope) (oc : Value) (od : Option Addr) (kV doc pm cdv ct : Value) (an : Option Addr) (osl : Array (Option Value)) (p1 p2 p3 p4 p5 : Pos),
    K.lookup fI = some ⟨oc, od, .func (PySem.W.fnOf "__iter__" qual args [.Return (some (.Call (.Name "iter" p1) [.Attribute (.Name "self" p2) F p3] [] p4)) p5] scope .none kV doc pm an cdv ct), osl⟩ ∧ PySem.W.codeIn K cdv qual = true ∧
      scope.names.lookup ("self" : Str) = some .local ∧ scope.names.lookup ("iter" : Str) = some .globalImplicit ∧ scope.isCoroutine = false ∧ scope.isGenerator = false ∧ scope.kind = .function ∧
      (∀ (s : Shared) (v : Value), BindsTo s (PySem.W.fnOf "__iter__" qual args [.Return (some (.Call (.Name "iter" p1) [.Attribute (.Name "self" p2) F p3] [] p4)) p5] scope .none kV doc pm an cdv ct) ⟨[v], []⟩ [("self", v)])
section
variable {X : Cx} {Wx : WX} {pins : List (Addr × Obj)} {σ : St} {H : Hp} {s : Shared} {a C dx b fI : Addr} {fs : List (Str × V)} {xs : List V} {F : Str} {A : Around} {E : Value → Shared → Prop}
/-- __iter__ called -/
theorem own_iter {Q : Value → Shared → Prop} (IT : IterC X.K C fI F) (hm : X.mg "iter" = none) (I : Inv X pins σ H s) (ea : H a = some (.ins C dx fs)) (c : Cls X.K C) (n : NoAttr X.K C F) (l : fs.lookup F = some (.ref b)) (hq : SqL X.K H b xs) (hroom : A.depth < recursionLimit)
    (h : ∀ it s', Inv X ((it, GNX.itObj b 0) :: pins) σ H s' → FpOk X pins H it → s'.heap.get? it = some (GNX.itObj b 0) → Q (.ref it) s') : wpAny (model X.prog X.w) A (call (.ref fI) [.ref a]) Q E s := by
  obtain ⟨qual, args, scope, oc, od, kV, doc, pm, cdv, ct, an, osl, p1, p2, p3, p4, p5, ho, hcd, hks, hki, hco, hgen, hk, hbind⟩ := IT.fn
  refine wpAny_call (Att.call_fn (binds := [("self", .ref a)]) I.kIn I.nolimit ho hcd hroom (hbind s (.ref a)) (by simp [hks]) (fun s₁ IC => ?_) hco hgen hk)
  obtain ⟨h₁, tk₁, rfl⟩ := IC.toInCall.same
  have k : ∀ b o, s.heap.get? b = some o → h₁.get? b = some o := IC.toInCall.keep
  have hn := IC.toInCall.ns
  have I1 : Inv X pins σ H { s with heap := h₁, toks := tk₁ } := I.kept (t' := tk₁) k
  have kself : (envOfC qual scope s.heap.objs.size fI cdv).kindOf ("self" : Str) = some .local := hks
  obtain ⟨mb, hb1, hb2⟩ := I1.mod.blt
  refine wpAny_execs_cons (wpAny_Return_some ?_)
  refine wpAny_Call_Name_kw (Calls.Name_function_global (env := envOfC qual scope s.heap.objs.size fI cdv) hk hki (Calls.loadGlobal_builtin (I1.mod.glob.keeps I1.bk) hm (hb1.keeps I1.bk) ((hb2 "iter" (by decide)).trans PyProof.Rows.Boot.«iter») ?_) (by decide))
  refine PyProof.Rows.callWith_builtin1 ?_ rfl rfl
  refine Calls.spliced_cons ?_
  refine attr_of rfl ?_
  refine PySem.ESX.ldL (env := envOfC qual scope s.heap.objs.size fI cdv) hn (v := .ref a) (by simp [bindL, kself]) ?_ hk hks (by decide)
  refine getattr_ok I1 ea c n l fun u s2 I2 ru => ?_
  obtain rfl : u = Value.ref b := ru
  refine Calls.spliced_nil ?_
  obtain ⟨its, rv, pl, hz⟩ := I2.list hq
  refine GNX.call_iter pl.isList ?_
  have I3 : Inv X ((s2.heap.objs.size, GNX.itObj b 0) :: pins) σ H { s2 with heap := s2.heap.push (GNX.itObj b 0) } := ClX.pin_new (t' := s2.toks) I2 (fun b o e => Heap.get?_push_of_some _ e) (Nat.le_refl _) (Heap.get?_push_size _ rfl) (fun v z => nomatch z)
  exact h _ _ I3 (I2.fpOk (Nat.le_refl _) (I2.hok.fresh (Nat.le_refl _))) (Heap.get?_push_size _ rfl)
/-- a def that raises nothing here -/
theorem run_ok {A' : Around} {k n : Nat} {f : Addr} {m : FN} {Q : VK} {us : List Value} {vs : List V} {ρ : List Addr} {g : G} {ws : List W} {E' : Value → Shared → Prop} (FF : FnE X.prog X.w X.K X.mg X.base T k f n m) (hr : Room k A') (hf : Env0 X.prog X.w X.K X.mg X.base A' X.stack s H)
    (I : Inv X pins σ H s) (R : RG T ρ H g) (rw' : RWs T ρ H ws vs) (rv : Vals vs us) (h : EndR (RWr T) T W0 σ ρ H Q (arity n m ws g)) : wpAny (model X.prog X.w) A' (call (.ref f) us) (EP X pins σ Q) E' s := by
  obtain ⟨fd, ps, F, hb, hn⟩ := FF.ok
  unfold arity at h
  split at h
  · rename_i hws
    have hl : us.length = ps.length := by rw [← rv.length, ← rw'.length, hws, hn]
    have b := hb s us I.kIn (by rw [List.append_nil]; exact hl)
    rw [List.append_nil] at b
    refine wpAny_call (codeAny_mono (F.run A' X.stack s H ⟨us, []⟩ us vs Q (fun _ _ _ => False) hr hf b rv ⟨ρ, ws, g, R, rw', hws, h.conv fun c d H q => q⟩) fun r s' hq => ?_)
    cases r with
    | error e =>
      obtain ⟨a, B, H', cls, d, _, _, _, _, _, _, _, z⟩ := hq
      exact z.elim
    | ok fl =>
      cases fl with
      | ret u => exact I.after hq
      | next => exact False.elim hq
      | brk => exact False.elim hq
      | cont => exact False.elim hq
  · exact h.elim
def getN (c : Nat) : List (Nat × Nat) → Option Nat
  | [] => none
  | (k, b) :: r => if k = c then some b else getN c r
/-- the classes' own __iter__: which field's list is walked -/
def DispI (X : Cx) (T : Tab) (tab : List (Nat × Nat)) : Prop := X.mg "iter" = none ∧ ∀ c f C, getN c tab = some f → T.cls c = some C → ∃ F fI, T.fns[f]? = some F ∧ IterC X.K C fI F
theorem DispI.cons {c f : Nat} {F : Str} {fI : Addr} {tab : List (Nat × Nat)} (hf : T.fns[f]? = some F) (h : ∀ C, T.cls c = some C → IterC X.K C fI F) (r : DispI X T tab) : DispI X T ((c, f) :: tab) := ⟨r.1, fun c' f' C hg hc => by
  simp only [getN] at hg
  split at hg
  · rename_i e
    subst e
    cases hg
    exact ⟨F, fI, hf, h C hc⟩
  · exact r.2 c' f' C hg hc⟩
def ownList (tab : List (Nat × Nat)) (g : G) (x : W) : Option (Nat × List W) := match insAt g x with
  | some (_, c, fs) => match getN c tab with
    | some f => match getW f fs with
      | some (.ref k) => match g[k]? with
        | some (.lst ws) => some (k, ws)
        | _ => none
      | _ => none
    | none => none
  | none => none
theorem ownList_ok {tab ρ H g x vx k ws} (D : DispI X T tab) (hK : X.K = T.K) (R : RG T ρ H g) (rx : RW T ρ H x vx) (h : ownList tab g x = some (k, ws)) : ∃ a C dx vs b us F fI, vx = .ref a ∧ H a = some (.ins C dx vs) ∧ Cls X.K C ∧ NoAttr X.K C F ∧ vs.lookup F = some (.ref b) ∧ H b = some (.lst us) ∧ RWs T ρ H ws us ∧
    ρ[k]? = some b ∧ g[k]? = some (.lst ws) ∧ IterC X.K C fI F := by
  unfold ownList at h
  cases hx : insAt g x with
  | none => rw [hx] at h; cases h
  | some q =>
    obtain ⟨l, c, fs⟩ := q
    rw [hx] at h
    obtain ⟨a, C, dx, vs, rfl, ha, rfl, hc, cw, hH, rf, hg⟩ := insAt_ok R rx hx
    dsimp only at h
    cases hf : getN c tab with
    | none => rw [hf] at h; cases h
    | some f =>
      rw [hf] at h
      dsimp only at h
      split at h
      · rename_i k' hw
        split at h
        · rename_i ws' hg2
          cases h
          obtain ⟨F, fI, hF, IT⟩ := D.2 c f C hf hc
          obtain ⟨v, hv, rv⟩ := rf.lookup hF hw
          obtain ⟨b, hb, rfl⟩ := rw_ref rv
          obtain ⟨us, hu, ru⟩ := lst_at R hg2 hb
          rw [hK]
          exact ⟨a, C, dx, vs, b, us, F, fI, rfl, hH, cw.cl, cw.na F (List.mem_of_getElem? hF), hv, hu, ru, hb, hg2, by rw [← hK]; exact IT⟩
        · cases h
      · cases h
def tiOwn (K : PySem.W.Frag) (tl : TE) : TI := fun σ H R => tl σ H fun x H1 => ∃ (a C dx : Addr) (fs : List (Str × V)) (b : Addr) (xs : List V) (F : Str) (fI : Addr), x = .ref a ∧ H1 a = some (.ins C dx fs) ∧ Cls K C ∧ NoAttr K C F ∧ fs.lookup F = some (.ref b) ∧ SqL K H1 b xs ∧ IterC K C fI F ∧ R (Itl K b) H1
theorem pi_own {tg l : Expr} {tl : TE} (hm : X.mg "iter" = none) (hr : Room 1 X.A) (hl : PE X l tl) : PI X tg l (tiOwn X.K tl) := by
  refine ⟨fun pins s σ H R I h => ?_⟩
  refine thn (hl.run pins s σ H _ I h) fun v s1 ⟨x, H1, I1, r1, a, C, dx, fs, b, xs, F, fI, e, ea, c, n, l, hq, IT, q⟩ => ?_
  subst e
  cases r1
  obtain ⟨od, J⟩ := inst_at I1 ea
  obtain ⟨mm, fr⟩ := I1.fr
  refine PySem.W.owit_iter fr I1.ok.mod.kin J IT.it IT.itF (own_iter IT hm I1 ea c n l hq (by have := hr.dp; omega) fun it s2 I2 fp e2 => ?_)
  have hT : s2.TypeIs (.ref it) "list_iterator" := ⟨_, e2, rfl⟩
  unfold PySem.W.OwitIt
  refine wpAny_specialOf (name := Str.ofString "__next__") hT slot_listiter_next.lookup ?_
  refine ⟨it, [it], _, _, H1, rfl, ClX.unpin I2, turn_list b _, ⟨_, e2, rfl, rfl⟩, fun b hb => ?_, q⟩
  have e : b = it := by simpa using hb
  subst e
  exact fp
def iAny (tab : List (Nat × Nat)) (a : ED) : ID := fun σ g => (a σ g).bind fun x g => match ownList tab g x with
  | some (k, ws) => .ok ⟨ws, some k⟩ g
  | none => match itemsOf g x with
    | some L => .ok L g
    | none => .bad
theorem li_any {tab : List (Nat × Nat)} {tg e : Expr} {ma : ED} (hK : X.K = T.K) (D : DispI X T tab) (hr : Room 1 X.A) (h : PE X e (LE T Wx ma)) : PI X tg e (LI T Wx (iAny tab ma)) := by
  have key : PI X tg e (fun σ H R => LE T Wx ma σ H fun x H1 => (∃ a, x = .ref a ∧ (((∃ xs, SqL X.K H1 a xs) ∧ R (Itl X.K a) H1) ∨ ((∃ xs, SqT X.K H1 a xs) ∧ R (Itt X.K a) H1))) ∨
      ∃ (a C dx : Addr) (fs : List (Str × V)) (b : Addr) (xs : List V) (F : Str) (fI : Addr), x = .ref a ∧ H1 a = some (.ins C dx fs) ∧ Cls X.K C ∧ NoAttr X.K C F ∧ fs.lookup F = some (.ref b) ∧ SqL X.K H1 b xs ∧ IterC X.K C fI F ∧ R (Itl X.K b) H1) := by
    refine ⟨fun pins s σ H R I h' => ?_⟩
    refine thn (h.run pins s σ H _ I h') fun v s1 ⟨x, H1, I1, r1, q⟩ => ?_
    rcases q with ⟨a, e, q⟩ | ⟨a, C, dx, fs, b, xs, F, fI, e, ea, c, n, l, hq, IT, q⟩
    · subst e
      cases r1
      rcases q with ⟨⟨xs, hq⟩, q⟩ | ⟨⟨xs, hq⟩, q⟩
      · obtain ⟨its, rv, p, hz⟩ := I1.list hq
        refine wpAny_pyIter_list p.isList ?_
        refine ⟨s1.heap.objs.size, [s1.heap.objs.size], _, _, H1, rfl, I1.kept (t' := s1.toks) fun b o e => Heap.get?_push_of_some _ e, turn_list a _, ⟨_, Heap.get?_push_size _ rfl, rfl, rfl⟩, fun b hb => ?_, q⟩
        have e : b = s1.heap.objs.size := by simpa using hb
        subst e
        exact I1.fpOk (Nat.le_refl _) (I1.hok.fresh (Nat.le_refl _))
      · obtain ⟨its, rv, p, hz⟩ := I1.tuple hq
        refine wpAny_pyIter_tuple (show s1.heap.IsTuple a its.toArray from p) ?_
        refine ⟨s1.heap.objs.size, [s1.heap.objs.size], _, _, H1, rfl, I1.kept (t' := s1.toks) fun b o e => Heap.get?_push_of_some _ e, turn_tuple a _, ⟨_, Heap.get?_push_size _ rfl, rfl, rfl⟩, fun b hb => ?_, q⟩
        have e : b = s1.heap.objs.size := by simpa using hb
        subst e
        exact I1.fpOk (Nat.le_refl _) (I1.hok.fresh (Nat.le_refl _))
    · subst e
      cases r1
      obtain ⟨od, J⟩ := inst_at I1 ea
      obtain ⟨mm, fr⟩ := I1.fr
      refine PySem.W.owit_iter fr I1.ok.mod.kin J IT.it IT.itF (own_iter IT D.1 I1 ea c n l hq (by have := hr.dp; omega) fun it s2 I2 fp e2 => ?_)
      have hT : s2.TypeIs (.ref it) "list_iterator" := ⟨_, e2, rfl⟩
      unfold PySem.W.OwitIt
      refine wpAny_specialOf (name := Str.ofString "__next__") hT slot_listiter_next.lookup ?_
      refine ⟨it, [it], _, _, H1, rfl, ClX.unpin I2, turn_list b _, ⟨_, e2, rfl, rfl⟩, fun b hb => ?_, q⟩
      have e : b = it := by simpa using hb
      subst e
      exact fp
  refine key.imp fun σ H R h => ?_
  obtain ⟨ρ, σw, g, hs, hg, he⟩ := h
  refine ⟨ρ, σw, g, hs, hg, EndR.bind he fun x g1 ρ1 H1 vx gr1 R1 rx he1 => ?_⟩
  cases ho : ownList tab g1 x with
  | some q =>
    obtain ⟨k, ws⟩ := q
    rw [ho] at he1
    obtain ⟨a, C, dx, vs, b, us, F, fI, rfl, ea, c, n, l, hb, ru, hk, hg2, IT⟩ := ownList_ok D hK R1 rx ho
    refine .inr ⟨a, C, dx, vs, b, us, F, fI, rfl, ea, c, n, l, SqL.of hb, IT, ?_⟩
    rw [hK]
    exact he1 ρ1 H1 _ .refl R1 (itRel_list hk)
  | none =>
    rw [ho] at he1
    refine .inl ?_
    rw [hK]
    cases x with
    | tup ws =>
      simp only [RWr, RW] at rx
      obtain ⟨a, vs, rfl, ha, hr⟩ := rx
      exact ⟨a, rfl, .inr ⟨⟨vs, SqT.of ha⟩, he1 ρ1 H1 _ .refl R1 (itRel_tup ha hr)⟩⟩
    | ref l =>
      simp only [RWr, RW] at rx
      obtain ⟨a, ha, rfl⟩ := rx
      obtain ⟨o, ho2, ro⟩ := R1.there ha
      simp only [itemsOf, ho2] at he1
      cases o with
      | lst ws =>
        obtain ⟨vs, hv, hr⟩ := ro
        exact ⟨a, rfl, .inl ⟨⟨vs, SqL.of hv⟩, he1 ρ1 H1 _ .refl R1 (itRel_list ha)⟩⟩
      | _ => exact he1.elim
    | _ => exact he1.elim
theorem sqL_ne {K : PySem.W.Frag} {H : Hp} {q b : Addr} {o : HO} {xs : List V} (h : SqL K H b xs) (ne : b ≠ q) : SqL K (upd H q o) b xs := by
  have e : upd H q o b = H b := upd_ne ne
  unfold SqL Rd at h ⊢
  simp only [e]
  exact h
/-- the loop over a list's iterator that fills the list at q -/
theorem ext_loop {q it : Addr} {A1 : Around} {Rs : Result → Shared → Prop} (hcalm : A1.in1.handled = none) (hqb : q ≠ b)
    (hdone : ∀ acc s, Inv X pins σ (upd H q (.lst (acc ++ xs))) s → acc = [] → Rs (.ok (.ret .none)) s) (hbH : SqL X.K H b xs) :
    ∀ (m i : Nat) (s : Shared), m = xs.length - i → i ≤ xs.length → Inv X pins σ (upd H q (.lst (xs.take i))) s → FpOk X pins (upd H q (.lst (xs.take i))) it → s.heap.IsListIter it b i →
      codeAny (model X.prog X.w) A1 (.builtin "list.extend.loop" ⟨[.ref q, .ref it, .none], []⟩) Rs s := by
  intro m
  induction m with
  | zero =>
    intro i s hm hi I fp st
    have hi' : i = xs.length := by omega
    subst hi'
    rw [List.take_length] at I
    refine codeAny_builtin PySem.F.entry_extend_loop ?_
    rw [Around.under_plainId PySem.F.plain_extend_loop _]
    show wpAny _ A1.in1 (pyNext (.ref it) >>= _) _ _ s
    have hl : SqL X.K (upd H q (.lst xs)) b xs := sqL_ne hbH hqb.symm
    obtain ⟨its, rv, p, hz⟩ := I.list hl
    obtain ⟨f0, f1, f2, f3, f4, f5⟩ := fp
    have hlen := rv.length
    rw [List.take_length] at f0
    refine wpAny_bind (wpAny_pyNext_list_end hcalm st p.isList (by simp; omega) fun h' eb => ?_)
    exact wpAny_pure (hdone [] _ (I.turned (t' := s.toks) (fun b o hb e => eb b o hb e) f0 f1 f3 f4 f5) rfl)
  | succ m ih =>
    intro i s hm hi I fp st
    have hlt : i < xs.length := by omega
    refine codeAny_builtin PySem.F.entry_extend_loop ?_
    rw [Around.under_plainId PySem.F.plain_extend_loop _]
    show wpAny _ A1.in1 (pyNext (.ref it) >>= _) _ _ s
    have hl : SqL X.K (upd H q (.lst (xs.take i))) b xs := sqL_ne hbH hqb.symm
    obtain ⟨its, rv, p, hz⟩ := I.list hl
    obtain ⟨f0, f1, f2, f3, f4, f5⟩ := fp
    obtain ⟨u, hu, ru⟩ := rv.get (List.getElem?_eq_getElem hlt)
    refine wpAny_bind (wpAny_pyNext_list_item st p.isList (x := u) (by simpa using hu) fun h' st' sb => ?_)
    have I1 : Inv X pins σ (upd H q (.lst (xs.take i))) { s with heap := h' } := I.turned (t' := s.toks) (fun b o hb e => (sb.2 b hb).trans e) f0 f1 f3 f4 f5
    show wpAny _ A1.in1 (updateSeq q (·.push u) >>= _) _ _ _
    obtain ⟨z, its2, k, r2, hl2, e⟩ := I1.lstM upd_same
    have hqi : q ≠ it := fun z => by
      rw [← z, upd_same] at f0
      cases f0
    have hz2 : its2.length < sizeLine := by
      have := r2.length
      rw [List.length_take] at this
      have hxl := rv.length
      omega
    refine wpAny_bind (wpAny_updateSeq e rfl (wpAny_pure ⟨plainId_quiet PySem.F.plain_extend_loop _, ?_⟩) (by rw [List.size_toArray]; omega) (by show (its2.toArray.push u).size ≤ sizeLine + 1; rw [Array.size_push, List.size_toArray]; omega))
    have et : xs.take i ++ [xs[i]] = xs.take (i + 1) := by rw [List.take_succ, List.getElem?_eq_getElem hlt]; rfl
    have J := I1.lset (f := (·.push u)) (its' := its2 ++ [u]) (t' := s.toks) upd_same e (by simp) (r2.append (.cons ru .nil)) (by rw [List.length_append, List.length_singleton]; omega)
    rw [upd_upd, et] at J
    refine ih (i + 1) _ (by omega) (by omega) J ⟨?_, f1, f2, f3, f4, f5⟩ ?_
    · rw [upd_ne hqi.symm] at f0 ⊢
      exact f0
    · exact st'.at fun o ho => by
        first
          | exact (Heap.get?_update_ne _ _ _ _ hqi).trans ho
          | exact (Heap.get?_update_other _ _ hqi).trans ho
          | exact (Heap.get?_update_other _ _ hqi.symm).trans ho
end
end WL
end
section
set_option maxRecDepth 100000
set_option maxHeartbeats 1000000
namespace WL
open PySem PySem.Spec L2
open PyProof.Rows hiding St
set_option autoImplicit true
variable {T : Tab}
section
variable {X : Cx} {Wx : WX} {pins : List (Addr × Obj)} {σ : St} {H : Hp} {s : Shared} {a C dx b fI : Addr} {fs : List (Str × V)} {xs : List V} {F : Str} {A : Around} {E : Value → Shared → Prop}
/-- own special methods, called some levels down -/
def DispL (X : Cx) (T : Tab) (nm : Str) (d : Disp) : Prop := ∀ c F C, getD c d = some F → T.cls c = some C → ∃ f k n m, F = arity n m ∧ FnE X.prog X.w X.K X.mg X.base T k f n m ∧ Room (k + 6) X.A ∧
  PySem.W.findIn X.K (.ref C) nm = some (some (.ref f)) ∧ PySem.W.isFn X.K (.ref f) = true ∧ PySem.W.fnIn X.K f = true
theorem DispL.nil {nm} : DispL X T nm [] := fun c F C h => by cases h
theorem DispL.cons {nm c f k n m} {d : Disp} (F : FnE X.prog X.w X.K X.mg X.base T k f n m) (hr : Room (k + 6) X.A) (h : ∀ C, T.cls c = some C → PySem.W.findIn X.K (.ref C) nm = some (some (.ref f)) ∧ PySem.W.isFn X.K (.ref f) = true ∧ PySem.W.fnIn X.K f = true)
    (r : DispL X T nm d) : DispL X T nm ((c, arity n m) :: d) := fun c' F' C hg hc => by
  simp only [getD] at hg
  split at hg
  · rename_i e
    subst e
    cases hg
    exact ⟨f, k, n, m, rfl, F, hr, h C hc⟩
  · exact r c' F' C hg hc
def nat62 (i : Int) : Bool := decide (0 ≤ i ∧ i < 1000000)
/-- len(x) -/
def lenOF (d : Disp) : FN := fun ws g => match ws with
  | [x] => match ownF d g x with
    | some L => match L [x] g with
      | .ok (.int n) g' => if nat62 n then .ok (.int n) g' else .bad
      | .ex c fs g' => .ex c fs g'
      | _ => .bad
    | none => lenF ws g
  | _ => .bad
theorem ownL_ok {nm : Str} {d : Disp} {ρ : List Addr} {g : G} {x : W} {vx : V} {F' : FN} (hd : DispL X T nm d) (R : RG T ρ H g) (rx : RW T ρ H x vx) (h : ownF d g x = some F') : ∃ a C dx vs f k n m, vx = .ref a ∧ H a = some (.ins C dx vs) ∧ F' = arity n m ∧ FnE X.prog X.w X.K X.mg X.base T k f n m ∧ Room (k + 6) X.A ∧
  PySem.W.findIn X.K (.ref C) nm = some (some (.ref f)) ∧ PySem.W.isFn X.K (.ref f) = true ∧ PySem.W.fnIn X.K f = true := by
  unfold ownF at h
  cases hx : insAt g x with
  | none => rw [hx] at h; cases h
  | some q =>
    obtain ⟨l, c, fs⟩ := q
    rw [hx] at h
    obtain ⟨a, C, dx, vs, rfl, ha, rfl, hc, cw, hH, rf, hg⟩ := insAt_ok R rx hx
    obtain ⟨f, k, n, m, e1, e2, e3, e4⟩ := hd c F' C h hc
    exact ⟨a, C, dx, vs, f, k, n, m, rfl, hH, e1, e2, e3, e4⟩
theorem c_lenO {d : Disp} (hK : X.K = T.K) (tk : Takes X Wx) (hd : DispL X T "__len__" d) : CallO X T Wx (.builtin "len") (lenOF d) := by
  intro pins s σ H ρ g xs vs us Q I R rx r1 e
  unfold lenOF at e
  split at e
  · rename_i x
    cases ho : ownF d g x with
    | none => rw [ho] at e; exact c_len hK pins s σ H ρ g _ vs us Q I R rx r1 e
    | some L =>
      rw [ho] at e
      dsimp only at e
      obtain ⟨v, rfl, rv⟩ := rws1 rx
      obtain ⟨a, C, dx, vs, f, k, n, m, rfl, hH, rfl, FF, hr, h1, h2, h3⟩ := ownL_ok hd R rv ho
      obtain ⟨u, rfl, ru⟩ := r1.one
      cases ru
      obtain ⟨od, J⟩ := inst_at I hH
      obtain ⟨mm, fr⟩ := I.fr
      have e' : EndR (RWr T) T Wx σ ρ H (fun v H' => ∃ i, v = .int i ∧ 0 ≤ i ∧ i < 2 ^ 63 ∧ Q (.int i) H') (arity n m [x] g) := by
        cases hm : arity n m [x] g with
        | ok a g' =>
          rw [hm] at e
          cases a with
          | int i =>
            dsimp only at e
            split at e
            · rename_i hi
              have hi := of_decide_eq_true hi
              exact fun ρ' H' b gr R' rb => ⟨i, rw_int rb, hi.1, by omega, e ρ' H' _ gr R' rwi⟩
            · exact e.elim
          | _ => exact e.elim
        | ex c fs g' => rw [hm] at e; exact e
        | bad => rw [hm] at e; exact e.elim
      have hr1 : Room k X.A.in1 := (hr.mono (by omega : k + 1 ≤ k + 6)).in1
      have ev : Env0 X.prog X.w X.K X.mg X.base X.A.in1 X.stack s H := I.env0.in1
      have run := run_at (A := X.A.in1) (us := [.ref a]) (vs := [.ref a]) FF hr1 ev tk I R (.cons rv .nil) (.cons rfl .nil) e'
      refine PySem.W.len_K fr I.ok.mod.kin J h1 h2 (wpAny_mono run (fun r s1 ⟨z, H1, I1, rz, i, hi, h0, h63, q⟩ => ?_) fun _ _ y => y)
      subst hi
      obtain ⟨t, rfl⟩ := rz
      exact ⟨⟨h0, h63⟩, ⟨.int i, H1, I1.tok _, ⟨_, rfl⟩, q⟩⟩
  · exact e.elim
theorem in1_sub {k : Nat} (sb : Sub X (k + 1) A) : Sub X k A.in1 := sb.in1
theorem env_sub {A' : Around} {k : Nat} (I : Inv X pins σ H s) (sb : Sub X k A') : Env0 X.prog X.w X.K X.mg X.base A' X.stack s H := by
  have e := I.env0
  exact ⟨by rw [sb.fr]; exact e.frames, e.mod, e.bs, e.bsz, e.funs, e.frf, e.hok, e.bare⟩
theorem hint_ok {f : Addr} {od : Option Obj} {ox : Obj} {Q : Bool → Shared → Prop} (J : PySem.W.InstAt s.heap a ox C od) (hK : X.K.In s.heap) (h1 : PySem.W.findIn X.K (.ref C) "__len__" = some (some (.ref f)))
    (h : wpAny (model X.prog X.w) A (call (.builtin "len") [.ref a]) (fun v s' => ∃ i t, v = .int i t ∧ 0 ≤ i ∧ i < 1000000 ∧ Q (i != 0) s') (fun _ _ => False) s) : wpAny (model X.prog X.w) A (Builtin.List.listLengthHint (.ref a)) Q E s := by
  unfold Builtin.List.listLengthHint
  refine wpAny_bind (wpAny_bind (J.type.here ((PySem.W.looks_findIn hK h1).here ?_)))
  refine PySem.W.KFB.if_not rfl ?_
  refine PySem.W.KFB.if_so rfl ?_
  refine wpAny_bind (wpAny_rule ?_)
  refine wpAny_bind (wpAny_attempt (wpAny_mono h (fun v s' hq => ?_) fun e s' z => z.elim))
  obtain ⟨i, t, rfl, h0, hi, q⟩ := hq
  refine wpAny_bind (m := asInt? (.int i t)) (wpAny_pure ?_)
  have hl : Builtin.List.listTooLong i.toNat = false := by
    unfold Builtin.List.listTooLong
    rw [sizeLine_eq]
    simp
    omega
  show wpAny _ _ (if Builtin.List.listTooLong i.toNat = true then _ else _) _ _ _
  rw [hl, if_neg Bool.false_ne_true]
  exact wpAny_pure q
def listOF (d : Disp) (tab : List (Nat × Nat)) : FN := fun ws g => match ws with
  | [x] => match ownList tab g x with
    | some (k, us) => match ownF d g x with
      | some L => match L [x] (g ++ [.lst []]) with
        | .ok (.int n) g' => if nat62 n && decide (g' = g ++ [.lst []]) then .ok (.ref g.length) (g ++ [.lst us]) else .bad
        | _ => .bad
      | none => .bad
    | none => listF ws g
  | _ => .bad
theorem c_listO {d : Disp} {tab : List (Nat × Nat)} (hK : X.K = T.K) (hcalm : X.calm = true) (D : DispI X T tab) (hd : DispL X T "__len__" d) : CallO X T Wx (.type "list") (listOF d tab) := by
  intro pins s σ H ρ g xs vs us Q I R rx r1 e
  unfold listOF at e
  split at e
  · rename_i x
    cases ho : ownList tab g x with
    | none => rw [ho] at e; exact c_list hK pins s σ H ρ g _ vs us Q I R rx r1 e
    | some p =>
      obtain ⟨k, ws⟩ := p
      rw [ho] at e
      dsimp only at e
      cases hL : ownF d g x with
      | none => rw [hL] at e; exact e.elim
      | some L =>
        rw [hL] at e
        dsimp only at e
        obtain ⟨v, rfl, rv⟩ := rws1 rx
        obtain ⟨a, C, dx, fs, f, kk, n, m, rfl, hH, rfl, FF, hr, h1, h2, h3⟩ := ownL_ok hd R rv hL
        obtain ⟨a', C', dx', fs', b, bs, F, fI, ea', hH', c, na, l, hb, rb, hkb, hgk, IT⟩ := ownList_ok D hK R rv ho
        cases ea'
        rw [hH] at hH'
        cases hH'
        obtain ⟨u, rfl, ru⟩ := r1.one
        cases ru
        have sb : Sub X (kk + 4) X.A.in1.in1 := (Sub.in1 (Sub.in1 (⟨hr, rfl⟩ : Sub X (kk + 6) X.A)))
        refine callType_codes (Q₁ := fun obj s₁ => obj = .ref s.heap.objs.size ∧ s₁ = { s with heap := s.heap.push { cls := .type "list", data := .seq #[] } }) PySem.F.called_list (PySem.F.typeCall_list_1 _) PySem.F.entry_list_init
          (code_list_new _ ⟨rfl, rfl⟩) fun obj s₁ h₁ => ?_
        obtain ⟨rfl, rfl⟩ := h₁
        have hS : (s.heap.push { cls := .type "list", data := .seq #[] }).get? s.heap.objs.size = some { cls := .type "list", data := .seq #[] } := Heap.get?_push_size _ rfl
        refine ⟨⟨_, hS, rfl⟩, PySem.F.args_list_init_2 _ _, ?_⟩
        have fr : H s.heap.objs.size = none := I.hok.fresh (Nat.le_refl _)
        generalize hqq : s.heap.objs.size = q at *
        have I1 : Inv X pins σ (upd H q (.lst [])) { s with heap := s.heap.push { cls := .type "list", data := .seq #[] } } := by
          rw [← hqq]
          exact I.lnew (its := []) (t' := s.toks) .nil (Nat.zero_le _)
        show wpAny _ _ (do let old ← Builtin.List.listItems (.ref q); Builtin.List.listUpdate (.ref q) (fun _ => #[]); letGo old.toList.reverse; Builtin.List.listExtendWith (.ref q) (.ref a) .none) _ _ _
        refine wpAny_bind ?_
        unfold Builtin.List.listItems
        refine wpAny_bind (wpAny_seqItems hS rfl (wpAny_pure ?_))
        show wpAny _ _ (updateSeq q (fun _ => #[]) >>= fun _ => letGo (#[] : Array Value).toList.reverse >>= fun _ => Builtin.List.listExtendWith (.ref q) (.ref a) .none) _ _ _
        refine wpAny_bind (wpAny_updateSeq hS rfl ?_)
        have I2 := I1.lset (f := fun _ => #[]) (its := []) (its' := []) (ys := []) (t' := s.toks) upd_same hS rfl .nil (Nat.zero_le _)
        rw [upd_upd] at I2
        refine wpAny_bind (wpAny_letGo ?_)
        -- the new, empty list is a place
        have R2 : RG T (ρ ++ [q]) (upd H q (.lst [])) (g ++ [.lst []]) := new_lst R fr RWs.nil
        have gr0 : Grow ρ H (ρ ++ [q]) (upd H q (.lst [])) := grow_new fr
        have ha2 : upd H q (.lst []) a = some (.ins C dx fs) := by rw [upd_ne (ne_of_none hH fr)]; exact hH
        have nqa : q ≠ a := fun z => by rw [z] at fr; rw [fr] at hH; cases hH
        have nqb : q ≠ b := fun z => by rw [z] at fr; rw [fr] at hb; cases hb
        obtain ⟨od, J⟩ := inst_at I2 ha2
        obtain ⟨mm, hF⟩ := I2.fr
        unfold Builtin.List.listExtendWith
        refine wpAny_bind (J.type.here ?_)
        have z1 : Builtin.List.listSameRef (.ref q) (.ref a) = false := by simp [Builtin.List.listSameRef, nqa]
        have z2 : (Value.ref C == Value.type "list") = false := rfl
        have z3 : (Value.ref C == Value.type "tuple") = false := rfl
        simp only [z1, z2, z3, Bool.or_false, Bool.false_eq_true, if_false]
        refine wpAny_bind (PySem.W.owit_iter hF I2.ok.mod.kin J IT.it IT.itF ?_)
        refine own_iter IT D.1 I2 ha2 c na l (sqL_ne (SqL.of hb) nqb.symm) (by have := sb.room.dp; omega) fun it s2 I3 fp e2 => ?_
        have hT : s2.TypeIs (.ref it) "list_iterator" := ⟨_, e2, rfl⟩
        unfold PySem.W.OwitIt
        refine wpAny_specialOf (name := Str.ofString "__next__") hT slot_listiter_next.lookup ?_
        obtain ⟨od3, J3⟩ := inst_at (ClX.unpin I3) ha2
        obtain ⟨mm3, hF3⟩ := I3.fr
        have e' : EndR (RWr T) T W0 σ (ρ ++ [q]) (upd H q (.lst [])) (fun v H' => ∃ i, v = .int i ∧ 0 ≤ i ∧ i < 1000000 ∧ ∃ ρ', Grow (ρ ++ [q]) (upd H q (.lst [])) ρ' H' ∧ RG T ρ' H' (g ++ [.lst []]) ∧ EndR (RWr T) T Wx σ ρ H Q (.ok (.ref g.length) (g ++ [.lst ws]))) (arity n m [x] (g ++ [.lst []])) := by
          cases hm : arity n m [x] (g ++ [.lst []]) with
          | ok w g' =>
            rw [hm] at e
            cases w with
            | int i =>
              dsimp only at e
              split at e
              · rename_i hc
                rw [Bool.and_eq_true] at hc
                have hi := of_decide_eq_true hc.1
                have hg' := of_decide_eq_true hc.2
                subst hg'
                exact fun ρ' H' b' gr R' rb' => ⟨i, rw_int rb', hi.1, hi.2, ρ', gr, R', e⟩
              · exact e.elim
            | _ => exact e.elim
          | ex c fs g' => rw [hm] at e; exact e.elim
          | bad => rw [hm] at e; exact e.elim
        have sb3 : Sub X kk X.A.in1.in1.in1 := (sb.mono (by omega : kk + 1 ≤ kk + 4)).in1
        have run := run_ok (A' := X.A.in1.in1.in1) (E' := fun _ _ => False) (us := [.ref a]) (vs := [.ref a]) FF sb3.room (env_sub I3 sb3) I3 R2 (.cons (rv.mono gr0 _ _) .nil) (.cons rfl .nil) e'
        refine wpAny_bind (wpAny_holding (hint_ok J3 I3.kIn h1 (PySem.W.len_K hF3 I3.ok.mod.kin J3 h1 h2 (wpAny_mono run (fun r s1 ⟨z, H1, I4, rz, i, hi, h0, hi2, ρ', gr, R', fin⟩ => ?_) fun _ _ y => y))))
        subst hi
        obtain ⟨t, rfl⟩ := rz
        refine ⟨⟨h0, by omega⟩, i, _, rfl, h0, hi2, ?_⟩
        have I5 := I4.tok (s1.toks + 1)
        have hpt := ClX.pin_at I5
        have hpn := ClX.pin_un I5
        have I6 := ClX.unpin I5
        have hq1 : H1 q = some (.lst []) := by
          obtain ⟨us', hu, ru'⟩ := lst_at R' (show (g ++ [GO.lst []])[g.length]? = some (.lst []) by simp) (gr.pre g.length q (by rw [← R.len]; simp))
          simp only [RWs] at ru'
          subst ru'
          exact hu
        have hlt : k < g.length := (List.getElem?_eq_some_iff.mp hgk).1
        have hkb' : ρ'[k]? = some b := gr.pre k b (gr0.pre k b hkb)
        obtain ⟨us', hu, ru'⟩ := lst_at R' (show (g ++ [GO.lst []])[k]? = some (.lst ws) by rw [List.getElem?_append_left hlt]; exact hgk) hkb'
        have heq : upd H1 q (.lst (us'.take 0)) = H1 := by
          funext y
          by_cases hy : y = q
          · rw [hy, upd_same, hq1]; rfl
          · rw [upd_ne hy]
        have done : ∀ (acc : List V) (s' : Shared), Inv X pins σ (upd H1 q (.lst (acc ++ us'))) s' → acc = [] → wants (fun r s₂ => r = .none ∧ EP X pins σ Q (.ref q) s₂) X.xe (.ok (.ret .none)) s' := fun acc s' I' ea => by
          subst ea
          refine ⟨rfl, .ref q, _, I', rfl, ?_⟩
          have mt : Mutb (H1 q) := by rw [hq1]; trivial
          have gw : Grow ρ' H1 ρ' (upd H1 q (.lst ([] ++ us'))) := grow_write mt
          have hpl : ρ'[g.length]? = some q := gr.pre g.length q (by rw [← R.len]; simp)
          have R6 := R'.write (u := .lst ws) (o := .lst ([] ++ us')) hpl ⟨_, upd_same, ru'.mono gw _ _⟩
          have eset : (g ++ [GO.lst []]).set g.length (.lst ws) = g ++ [.lst ws] := by
            rw [List.set_append_right _ _ (Nat.le_refl _)]
            simp
          rw [eset] at R6
          refine fin ρ' _ _ ((gr0.trans gr).trans gw) R6 ?_
          simp only [RWr, RW]
          exact ⟨q, hpl, rfl⟩
        have calm1 : X.A.in1.in1.handled = none := I.ok.hd hcalm
        have loop : ∀ s', Inv X pins σ H1 s' → s'.heap.get? it = some (GNX.itObj b 0) → codeAny (model X.prog X.w) X.A.in1 (.builtin "list.extend.loop" ⟨[.ref q, .ref it, .none], []⟩) (wants (fun r s₂ => r = .none ∧ EP X pins σ Q (.ref q) s₂) X.xe) s' := fun s' I' hit => by
          refine ext_loop (A1 := X.A.in1) (xs := us') (H := H1) (b := b) calm1 nqb done (SqL.of hu) us'.length 0 s' (by simp) (Nat.zero_le _) (by rw [heq]; exact I') ?_ ⟨_, hit, rfl, rfl⟩
          rw [heq]
          exact ⟨hpn, fp.2⟩
        obtain ⟨z, its, k9, r3, hl3, e3⟩ := I6.lstM hq1
        cases r3
        refine wpAny_ite_split (fun _ => ?_) (fun _ => wpAny_pure ⟨plainId_quiet PySem.F.plain_extend_loop _, loop _ I6 hpt⟩)
        refine wpAny_bind (wpAny_rule ?_)
        refine wpAny_bind ?_
        show wpAny _ _ (updateSeq q (·.push .none) >>= fun _ => updateSeq q (·.pop)) _ _ _
        refine wpAny_bind (wpAny_updateSeq e3 rfl ?_)
        have I7 := I5.lset (f := (·.push Value.none)) (its' := [Value.none]) (ys := [.non]) (t' := s1.toks + 1) hq1 e3 (by simp) (.cons rfl .nil) (by rw [List.length_singleton, sizeLine_eq]; decide)
        obtain ⟨z4, its4, k4, r4, hl4, e4⟩ := I7.lstM upd_same
        obtain ⟨u4, rfl, ru4⟩ := r4.one
        refine wpAny_updateSeq e4 rfl ?_ (by show 1 ≤ sizeLine; rw [sizeLine_eq]; decide) (by show 0 ≤ sizeLine + 1; exact Nat.zero_le _)
        have I8 := I7.lset (f := (·.pop)) (its := [u4]) (its' := []) (ys := []) (t' := s1.toks + 1) upd_same e4 (by rfl) .nil (Nat.zero_le _)
        rw [upd_upd] at I8
        have hHq : upd H1 q (.lst []) = H1 := by
          funext y
          by_cases hy : y = q
          · rw [hy, upd_same, hq1]
          · rw [upd_ne hy]
        rw [hHq] at I8
        exact wpAny_pure ⟨plainId_quiet PySem.F.plain_extend_loop _, loop _ (ClX.unpin I8) (ClX.pin_at I8)⟩
  · exact e.elim
end
end WL
end
section
set_option maxRecDepth 100000
set_option maxHeartbeats 1000000
namespace WL
open PySem PySem.Spec L2
open PyProof.Rows hiding St
set_option autoImplicit true
variable {T : Tab}
section
variable {X : Cx} {Wx : WX} {pins : List (Addr × Obj)} {σ : St} {H : Hp} {s : Shared} {a C dx b fI : Addr} {fs : List (Str × V)} {xs : List V} {F : Str} {A : Around} {E : Value → Shared → Prop} {e o : Expr} {es : List Expr} {ma mo mv : ED} {mas : AD} {pos p : Pos}
def tyN (g : G) : W → Option String
  | .non => some "NoneType"
  | .bl _ => some "bool"
  | .int _ => some "int"
  | .str _ => some "str"
  | .tup _ => some "tuple"
  | .ref l => match g[l]? with
    | some (.lst _) => some "list"
    | some (.dK _) => some "dict"
    | some (.dT _) => some "dict"
    | _ => none
  | _ => none
/-- what the class cv says of the built-in types and of the own classes -/
structure IsTab where
  bi : List (String × Bool)
  own : List (Nat × Bool)
def getT (n : String) : List (String × Bool) → Option Bool
  | [] => none
  | (k, b) :: r => if k = n then some b else getT n r
def isW (t : IsTab) (g : G) (x : W) : Option Bool := match insAt g x with
  | some (_, c, _) => getB c t.own
  | none => match tyN g x with
    | some n => getT n t.bi
    | none => none
def eIs (t : IsTab) (a : ED) : ED := fun σ g => (a σ g).bind fun x g => match isW t g x with
  | some b => .ok (.bl b) g
  | none => .bad
/-- an own class, asked by isinstance -/
structure InsF (K : PySem.W.Frag) (C : Addr) : Prop where
  ha : PySem.W.findIn K (.ref C) "__class__" = some (some (.builtin "object.__class__"))
  hn : PySem.W.specialIn K (.builtin "object.__class__") "__get__" = some (some (.builtin "getset_descriptor.__get__"))
  ht : PySem.W.takesIn K (.builtin "object.__class__") = some true
  hm : PySem.W.mroIn K C (.type "object") = some true
def IsOk (X : Cx) (T : Tab) (t : IsTab) (cv : Value) : Prop := (∀ n b, getT n t.bi = some b → PySem.W.kitOne X.K (.type n) cv = some b) ∧ ∀ c b C, getB c t.own = some b → T.cls c = some C → InsF X.K C ∧ PySem.W.kitOne X.K (.ref C) cv = some b
theorem tyN_ok {ρ g x vx n} (hK : X.K = T.K) (R : RG T ρ H g) (rx : RW T ρ H x vx) (h : tyN g x = some n) : TyX X.K H vx (.type n) := by
  cases x with
  | non => cases rw_non rx; cases h; exact .base .non
  | bl b => cases rw_bl rx; cases h; exact .base (.bl b)
  | int i => cases rw_int rx; cases h; exact .base (.int i)
  | str x => cases rw_str rx; cases h; exact .base (.str x)
  | tup ws => obtain ⟨a, vs, rfl, ha, hr⟩ := rw_tup rx; cases h; exact .base (.tup ha)
  | ref l =>
    obtain ⟨a, ha, rfl⟩ := rw_ref rx
    obtain ⟨o, ho, ro⟩ := R.there ha
    simp only [tyN, ho] at h
    cases o with
    | lst ws => obtain ⟨vs, hv, hr⟩ := ro; cases h; exact .base (.lst hv)
    | dK ws => obtain ⟨vs, hv, hr⟩ := ro; cases h; exact .base (.dK hv)
    | dT ws => obtain ⟨vs, hv, hr⟩ := ro; cases h; exact .base (.dT hv)
    | ins c fs => cases h
  | _ => cases h
theorem le_is {t : IsTab} {ip : Pos} {ce : Expr} {vc : V} {cv : Value} (hK : X.K = T.K) (hk : ClsV vc cv) (ok : IsOk X T t cv) (hm : X.mg "isinstance" = none) (he : PE X e (LE T Wx ma)) (hcl : PE X ce (tC vc)) (hg : Gl X "isinstance" := by rfl)
    (hs : starEach [e, ce] X.env = (false, eval e X.env) :: starEach [ce] X.env := by rfl) (hs2 : starEach [ce] X.env = (false, eval ce X.env) :: starEach [] X.env := by rfl) (hpl : (backTo pos (starEach [ce] X.env)).any (·.1) = false := by rfl) :
    PE X (.Call (.Name "isinstance" ip) [e, ce] [] pos) (LE T Wx (eIs t ma)) :=
  (pe_callB call_isi hg hm PyProof.Rows.Boot.«isinstance» (pa_cons he (pa_cons hcl pa_nil hs2) hs) (by decide) (by decide) hs hpl).imp fun σ H Q h => by
    obtain ⟨ρ, σw, g, hs, hg, he⟩ := h
    refine ⟨ρ, σw, g, hs, hg, EndR.bind he fun x g1 ρ1 H1 vx gr1 R1 rx he1 => ?_⟩
    cases hx : isW t g1 x with
    | none => rw [hx] at he1; exact he1.elim
    | some bb =>
      rw [hx] at he1
      have q : Q (.bl bb) H1 := he1 ρ1 H1 (.bl bb) .refl R1 rwb
      unfold isW at hx
      cases hi : insAt g1 x with
      | some q' =>
        obtain ⟨l, c, fs⟩ := q'
        rw [hi] at hx
        obtain ⟨a, C, dx, vs, rfl, ha, rfl, hc, cw, hH, rf, hg⟩ := insAt_ok R1 rx hi
        obtain ⟨i, k⟩ := ok.2 c bb C hx hc
        exact ⟨.ref a, vc, _, cv, bb, rfl, hk, .base (.ins hH (by rw [hK]; exact cw.cl) i.ha i.hn i.ht i.hm), k, q⟩
      | none =>
        rw [hi] at hx
        dsimp only at hx
        cases hn : tyN g1 x with
        | none => rw [hn] at hx; cases hx
        | some n =>
          rw [hn] at hx
          exact ⟨vx, vc, _, cv, bb, rfl, hk, tyN_ok hK R1 rx hn, ok.1 n bb hx, q⟩
theorem le_cval {w : W} {v : V} {u : Value} {mc : Value} {x f : Str} {xp : Pos} (r : ClX.CRead X.K C mc) (k : ClX.CVal X.K C mc f v u) (hm : X.mg x = some (.ref C)) (hr : ∀ ρ H, RW T ρ H w v) (hg : Gl X x := by rfl) (hdb : (x == ("__debug__" : Str)) = false := by decide)
    (hb : attributeBase (.Name x xp) f X.env (eval (.Name x xp) X.env) = eval (.Name x xp) X.env := by rfl) : PE X (.Attribute (.Name x xp) f pos) (LE T Wx (eC w)) :=
  (ClX.pe_cval (pe_glob (v := .ref C) hg hm rfl hdb) hb).imp fun σ H Q h => by
    obtain ⟨ρ, σw, g, hs, hg, he⟩ := h
    exact ⟨C, mc, v, u, rfl, r, k, he ρ H v .refl hg (hr ρ H)⟩
def eProp (d : Disp) (o : ED) : ED := fun σ g => (o σ g).bind fun x g => match insAt g x with
  | some (_, c, _) => match getD c d with
    | some F => match F [x] g with
      | .ok w g => .ok w g
      | _ => .bad
    | none => .bad
  | none => .bad
def DispP (X : Cx) (T : Tab) (nm : Str) (d : Disp) : Prop := ∀ c F C, getD c d = some F → T.cls c = some C → ∃ p f k n m, F = arity n m ∧ FnE X.prog X.w X.K X.mg X.base T k f n m ∧ Room (k + 1) X.A ∧ PropOf X.K C nm p f
theorem DispP.nil {nm} : DispP X T nm [] := fun c F C h => by cases h
theorem DispP.cons {nm c p f k n m} {d : Disp} (F : FnE X.prog X.w X.K X.mg X.base T k f n m) (hr : Room (k + 1) X.A) (h : ∀ C, T.cls c = some C → PropOf X.K C nm p f) (r : DispP X T nm d) : DispP X T nm ((c, arity n m) :: d) := fun c' F' C hg hc => by
  simp only [getD] at hg
  split at hg
  · rename_i e
    subst e
    cases hg
    exact ⟨p, f, k, n, m, rfl, F, hr, h C hc⟩
  · exact r c' F' C hg hc
theorem passF : Passes (L2.CX X.prog X.w) X (fun _ _ _ => False) := fun pins σ H s e s' I h => by
  obtain ⟨a, B, H', cls, d, _, _, _, _, _, _, _, z⟩ := h
  exact z.elim
theorem le_prop {nm : Str} {d : Disp} (hK : X.K = T.K) (hd : DispP X T nm d) (ho : PE X o (LE T Wx mo)) (hab : attributeBase o nm X.env (eval o X.env) = eval o X.env := by rfl) : PE X (.Attribute o nm pos) (LE T Wx (eProp d mo)) := by
  refine ⟨fun pins s σ H Q I h => ?_⟩
  obtain ⟨ρ, σw, g, hs, hg, he⟩ := h
  refine attr_of hab (thn (ho.run pins s σ H _ I ⟨ρ, σw, g, hs, hg, EndR.bind (Q' := fun vx H1 => ∃ ρ1 x g1, RG T ρ1 H1 g1 ∧ RW T ρ1 H1 x vx ∧ EndR (RWr T) T Wx σ ρ1 H1 Q (match insAt g1 x with
    | some (_, c, _) => match getD c d with
      | some F => match F [x] g1 with
        | .ok w g => .ok w g
        | _ => .bad
      | none => .bad
    | none => .bad)) he fun x g1 ρ1 H1 vx gr1 R1 rx he1 => ⟨ρ1, x, g1, R1, rx, he1⟩⟩) fun u s1 ⟨vx, H1, I1, r1, ρ1, x, g1, R1, rx, he1⟩ => ?_)
  cases hx : insAt g1 x with
  | none => rw [hx] at he1; exact he1.elim
  | some q =>
    obtain ⟨l, c, fs⟩ := q
    rw [hx] at he1
    dsimp only at he1
    obtain ⟨a, C, dx, vs, rfl, ha', rfl, h1, cw, hH, rf, hg⟩ := insAt_ok R1 rx hx
    obtain rfl : u = Value.ref a := r1
    cases hF : getD c d with
    | none => rw [hF] at he1; exact he1.elim
    | some F =>
      rw [hF] at he1
      dsimp only at he1
      obtain ⟨p, f, k, n, m, rfl, FF, hr, hp⟩ := hd c F C hF h1
      obtain ⟨fd, ps, F, hb, hn⟩ := FF.ok
      have e2 : EndR (RWr T) T Wno [] ρ1 H1 Q (arity n m [.ref l] g1) := by
        cases hm : arity n m [.ref l] g1 with
        | ok w g2 => rw [hm] at he1; exact he1
        | _ => rw [hm] at he1; exact he1.elim
      unfold arity at e2
      split at e2
      · rename_i hl
        exact getprop_ok I1 hH (by rw [hK]; exact cw.cl) hp F hr hb (dvs := []) .nil (E := fun _ _ _ => False) passF ⟨ρ1, [.ref l], g1, R1, .cons rx .nil, hl, e2.conv fun c d H q => q⟩
      · exact e2.elim
/-- o.f = v, f a property with a setter -/
def sProp (d : Disp) (o v : ED) : SD := fun σ g => (v σ g).fl σ fun y g => (o σ g).fl σ fun x g => match insAt g x with
  | some (_, c, _) => match getD c d with
    | some F => (F [x, y] g).fl σ fun _ g => .nx σ g
    | none => .bad
  | none => .bad
structure SetOf (K : PySem.W.Frag) (C : Addr) (nm : Str) (p f : Addr) : Prop where
  sa : PySem.W.findIn K (.ref C) "__setattr__" = some (some (.builtin "object.__setattr__"))
  po : PySem.W.plainOver K C = true
  tk : PySem.W.takerIn K C nm = some (some (.ref p))
  ty : PySem.W.typeIn K (.ref p) = some (.type "property")
  rc : ∃ a rest, PySem.W.recIn K p "property" = some (a :: .ref f :: rest)
def DispW (X : Cx) (T : Tab) (nm : Str) (d : Disp) : Prop := ∀ c F C, getD c d = some F → T.cls c = some C → ∃ p f k n m, F = arity n m ∧ FnE X.prog X.w X.K X.mg X.base T k f n m ∧ Room (k + 2) X.A ∧ SetOf X.K C nm p f
theorem DispW.nil {nm} : DispW X T nm [] := fun c F C h => by cases h
theorem DispW.cons {nm c p f k n m} {d : Disp} (F : FnE X.prog X.w X.K X.mg X.base T k f n m) (hr : Room (k + 2) X.A) (h : ∀ C, T.cls c = some C → SetOf X.K C nm p f) (r : DispW X T nm d) : DispW X T nm ((c, arity n m) :: d) := fun c' F' C hg hc => by
  simp only [getD] at hg
  split at hg
  · rename_i e
    subst e
    cases hg
    exact ⟨p, f, k, n, m, rfl, F, hr, h C hc⟩
  · exact r c' F' C hg hc
theorem run_code {A' : Around} {k n : Nat} {f : Addr} {m : FN} {Q : VK} {us : List Value} {vs : List V} {ρ : List Addr} {g : G} {ws : List W} (FF : FnE X.prog X.w X.K X.mg X.base T k f n m) (hr : Room k A') (hf : Env0 X.prog X.w X.K X.mg X.base A' X.stack s H) (tk : Takes X Wx)
    (I : Inv X pins σ H s) (R : RG T ρ H g) (rw' : RWs T ρ H ws vs) (rv : Vals vs us) (h : EndR (RWr T) T Wx σ ρ H Q (arity n m ws g)) :
    codeAny (model X.prog X.w) A' (.call (.ref f) ⟨us, []⟩) (fun r s' => match r with | .ok (.ret u) => EP X pins σ Q u s' | .ok _ => False | .error e => X.xe e s') s := by
  obtain ⟨fd, ps, F, hb, hn⟩ := FF.ok
  unfold arity at h
  split at h
  · rename_i hws
    have hl : us.length = ps.length := by rw [← rv.length, ← rw'.length, hws, hn]
    have b := hb s us I.kIn (by rw [List.append_nil]; exact hl)
    rw [List.append_nil] at b
    refine codeAny_mono (F.run A' X.stack s H ⟨us, []⟩ us vs Q (WE Wx σ) hr hf b rv ⟨ρ, ws, g, R, rw', hws, h.conv fun c d H q => q⟩) fun r s' hq => ?_
    cases r with
    | error e => exact passAt tk σ pins H s e s' I hq
    | ok fl =>
      cases fl with
      | ret u => exact I.after hq
      | next => exact False.elim hq
      | brk => exact False.elim hq
      | cont => exact False.elim hq
  · exact h.elim
theorem EndS.out {Wx : WX} {D : Ends} {ρ H} {σw : Sg} {σ : St} {r : Out W} (hs : RS T ρ H σw σ) (h : EndS T Wx D ρ H (r.fl σw fun _ g => .nx σw g)) : EndR (RWr T) T Wx σ ρ H (fun _ H' => D.nx σ H') r :=
  EndS.ofR hs h fun a g ρ' H' b gr R rr he => he ρ' H' σ .refl R (hs.mono gr _ _)
theorem ls_prop {nm : Str} {d : Disp} {v : Expr} {pos' : Pos} (hK : X.K = T.K) (tk : Takes X Wx) (hd : DispW X T nm d) (ho : PE X o (LE T Wx mo)) (hv : PE X v (LE T Wx mv)) (hsw : swapsWith v (some (.Attribute o nm pos')) pos.line X.env = pure false := by rfl) :
    PS X (.Assign [.Attribute o nm pos'] v pos) (LS T Wx (sProp d mo mv)) := by
  refine ⟨fun pins s σ H D I h => ?_⟩
  obtain ⟨ρ, σw, g, hs, hg, he⟩ := h
  refine plainObj_wpAny_Assign_Attribute (thn (hv.run pins s σ H _ I ⟨ρ, σw, g, hs, hg, EndS.ofR (Q' := fun vy H1 => ∃ ρ1 y g1, RS T ρ1 H1 σw σ ∧ RG T ρ1 H1 g1 ∧ RW T ρ1 H1 y vy ∧ EndS T Wx D ρ1 H1 ((mo σw g1).fl σw fun x g => match insAt g x with
    | some (_, c, _) => match getD c d with
      | some F => (F [x, y] g).fl σw fun _ g => .nx σw g
      | none => .bad
    | none => .bad)) hs he fun y g1 ρ1 H1 vy gr1 R1 ry he1 => ⟨ρ1, y, g1, hs.mono gr1 _ _, R1, ry, he1⟩⟩) fun uy s1 ⟨vy, H1, I1, ry1, ρ1, y, g1, hs1, R1, ry, he1⟩ => ?_) hsw
  refine thn (ho.run pins s1 σ H1 _ I1 ⟨ρ1, σw, g1, hs1, R1, EndS.ofR (Q' := fun vx H2 => ∃ ρ2 x g2, RS T ρ2 H2 σw σ ∧ RG T ρ2 H2 g2 ∧ RW T ρ2 H2 x vx ∧ RW T ρ2 H2 y vy ∧ EndS T Wx D ρ2 H2 (match insAt g2 x with
    | some (_, c, _) => match getD c d with
      | some F => (F [x, y] g2).fl σw fun _ g => .nx σw g
      | none => .bad
    | none => .bad)) hs1 he1 fun x g2 ρ2 H2 vx gr2 R2 rx he2 => ⟨ρ2, x, g2, hs1.mono gr2 _ _, R2, rx, ry.mono gr2 _ _, he2⟩⟩) fun ux s2 ⟨vx, H2, I2, rx1, ρ2, x, g2, hs2, R2, rx, ry2, he2⟩ => ?_
  cases hx : insAt g2 x with
  | none => rw [hx] at he2; exact he2.elim
  | some q =>
    obtain ⟨l, c, fs⟩ := q
    rw [hx] at he2
    dsimp only at he2
    obtain ⟨a, C, dx, vs, rfl, ha', rfl, h1, cw, hH, rf, hg⟩ := insAt_ok R2 rx hx
    obtain rfl : ux = Value.ref a := rx1
    cases hF : getD c d with
    | none => rw [hF] at he2; exact he2.elim
    | some F =>
      rw [hF] at he2
      dsimp only at he2
      obtain ⟨p, f, k, n, m, rfl, FF, hr, st⟩ := hd c F C hF h1
      obtain ⟨od, J⟩ := inst_at I2 hH
      obtain ⟨mm, fr⟩ := I2.fr
      obtain ⟨aa, rest, hrc⟩ := st.rc
      have ev : Env0 X.prog X.w X.K X.mg X.base X.A.in1.in1 X.stack { s2 with toks := s2.toks + 1 } H2 := (I2.tok (s2.toks + 1)).env0.in1.in1
      have run := run_code (A' := X.A.in1.in1) (us := [.ref a, uy]) (vs := [.ref a, vy]) (Q := fun _ H' => D.nx σ H') FF hr.in1.in1 ev tk (I2.tok (s2.toks + 1)) R2 (.cons rx (.cons ry2 .nil)) (.cons rfl (.cons ry1 .nil)) (EndS.out hs2 he2)
      refine PySem.W.set_prop fr I2.ok.mod.kin J st.sa st.po st.tk st.ty hrc (codeAny_mono run fun r s' hq => ?_)
      rcases r with e | (v | _ | _ | _)
      · exact hq
      · exact hq.elim
      · exact hq.elim
      · exact hq.elim
      · obtain ⟨z, H3, I3, rz, q⟩ := hq
        exact ⟨σ, H3, I3, q⟩
end
end WL
end
section
set_option maxRecDepth 100000
set_option maxHeartbeats 1000000
namespace WL
open PySem PySem.Spec L2
open PyProof.Rows hiding St
set_option autoImplicit true
variable {T : Tab}
section
variable {X : Cx} {Wx : WX} {pos : Pos}
theorem at0 {p : Addr → Prop} {c : Nat} {A : Addr} (hc : T.cls c = some A) (h : p A) : ∀ C, T.cls c = some C → p C := fun C e => by rw [hc] at e; cases e; exact h
theorem le_globI {x : Str} {i : Int} (hm : ∃ t, X.mg x = some (.int i t)) (hg : Gl X x := by rfl) (hd : (x == ("__debug__" : Str)) = false := by decide) : PE X (.Name x pos) (LE T Wx (eC (.int i))) := by
  obtain ⟨t, hm⟩ := hm
  exact le_glob (v := .int i) hm ⟨t, rfl⟩ (fun _ _ => rwi) hg hd
theorem le_globS {x y : Str} (hm : ∃ t, X.mg x = some (.str y t)) (hg : Gl X x := by rfl) (hd : (x == ("__debug__" : Str)) = false := by decide) : PE X (.Name x pos) (LE T Wx (eC (.str y))) := by
  obtain ⟨t, hm⟩ := hm
  exact le_glob (v := .str y) hm ⟨t, rfl⟩ (fun _ _ => rws) hg hd
/-- -i, written -/
theorem le_neg {i : Int} {j : Nat} {p1 : Pos} : PE X (.UnaryOp .USub (.Constant (.int i) j p1) pos) (LE T Wx (eC (.int (-i)))) := le_of_c (v := .int (-i)) ((pe_un un_neg (pe_int (i := i) (j := j) (pos := p1))).imp fun σ H Q h => ⟨i, rfl, h⟩) fun _ _ => rwi
end
theorem _root_.L2.Room.u1 {k : Nat} {A : Around} (r : Room k A) : A.units + 1 < cLine := by have := r.un; omega
theorem _root_.L2.Room.u64 {k : Nat} {A : Around} (r : Room k A) : A.units + 64 < cLine := by have := r.un; omega
theorem _root_.L2.Room.u65 {k : Nat} {A : Around} (r : Room k A) : A.units + 65 < cLine := by have := r.un; omega
/-- the tables of isinstance -/
theorem getT_all {p : String → Bool → Prop} : ∀ {l : List (String × Bool)}, (∀ q ∈ l, p q.1 q.2) → ∀ n b, getT n l = some b → p n b
  | [], _, n, b, h => by cases h
  | (k, c) :: r, ha, n, b, h => by
    simp only [getT] at h
    split at h
    · rename_i e
      subst e
      cases h
      exact ha (k, c) List.mem_cons_self
    · exact getT_all (fun q hq => ha q (List.mem_cons_of_mem _ hq)) n b h
theorem isOk_b {X : Cx} {t : IsTab} {B : String} (ho : t.own = []) (h : (t.bi.all fun q => decide (kitB q.1 B = some q.2)) = true) : IsOk X T t (.type B) := ⟨fun n b e => kit_ty (getT_all (p := fun n b => kitB n B = some b) (fun q hq => of_decide_eq_true (List.all_eq_true.mp h q hq)) n b e), fun c b C e => by rw [ho] at e; cases e⟩
theorem isOk_o {X : Cx} {t : IsTab} {D : Addr} (hb : t.bi = []) (h : ∀ c b C, getB c t.own = some b → T.cls c = some C → InsF X.K C ∧ PySem.W.kitOne X.K (.ref C) (.ref D) = some b) : IsOk X T t (.ref D) := ⟨fun n b e => (by rw [hb] at e; cases e), h⟩
theorem own_nil {p : Nat → Bool → Addr → Prop} : ∀ c b C, getB c [] = some b → T.cls c = some C → p c b C := fun c b C h => by cases h
theorem own_cons {p : Nat → Bool → Addr → Prop} {c b tab} (h : ∀ C, T.cls c = some C → p c b C) (r : ∀ c b C, getB c tab = some b → T.cls c = some C → p c b C) : ∀ c' b' C, getB c' ((c, b) :: tab) = some b' → T.cls c' = some C → p c' b' C := fun c' b' C hg hc => by
  simp only [getB] at hg
  split at hg
  · rename_i e
    subst e
    cases hg
    exact h C hc
  · exact r c' b' C hg hc
def FunX (K : PySem.W.Frag) (x qual : Str) (st : Stmt) (f : Addr) (ps : List Str) : Prop := ∃ fd, Fun K x qual st f fd ∧ Binds K fd ps []
theorem funX {K : PySem.W.Frag} {x qual : Str} {st : Stmt} {f : Addr} {ps : List Str} {oc : Value} {od an : Option Addr} {osl : Array (Option Value)} {kV doc pm cdv ct : Value} (l : K.lookup f = some ⟨oc, od, .func (PySem.W.fnOf x qual (defArgs st) (defBody st) (defScope st) .none kV doc pm an cdv ct), osl⟩)
    (c : PySem.W.codeIn K cdv qual = true) (k : PySem.W.keepIn K (.ref f) = true) (hb : ∀ (kV doc pm : Value) (an : Option Addr) (cdv ct : Value) (us : List Value), us.length = ps.length → bindArgs (PySem.W.fnOf x qual (defArgs st) (defBody st) (defScope st) .none kV doc pm an cdv ct) ⟨us, []⟩ = pure (ps.zip us)) : FunX K x qual st f ps :=
  ⟨_, fun_mk l c k, (fun_mk l c k).binds hb⟩
/-- an own exception class, C; L: the class that the clauses name -/
structure ExcA (P : Program) (w : World) (K : PySem.W.Frag) (mg : Str → Option Value) (C L : Addr) (x : Str) (fl : List Str) : Prop where
  t : ∃ fI, ExcT K mg C fI x fl ∧ InitP P w K mg C fI fl
  em : PySem.W.exmOne K (.ref C) (.ref L) = some true
  xc : XfC K C
  ec : ExcC K C
theorem ExcA.kit {P w K mg C L x fl} (h : ExcA P w K mg C L x fl) : PySem.W.kitOne K (.ref C) (.ref C) = some true := by
  unfold PySem.W.kitOne
  simp
theorem kit_ne {K : PySem.W.Frag} {C D : Addr} {b : Bool} (ne : C ≠ D) (hc : (PySem.W.clsIn K D).isSome = true) (ht : PySem.W.typeIn K (.ref D) = some (.type "type")) (hs : PySem.W.subIn K (.ref C) (.ref D) = some b) : PySem.W.kitOne K (.ref C) (.ref D) = some b := by
  unfold PySem.W.kitOne
  rw [if_neg (by simpa using ne)]
  unfold PySem.W.kitCls
  simp [hc, ht, hs]
theorem kit_ve {K : PySem.W.Frag} {C : Addr} {n : String} {b : Bool} (hm : PySem.W.kitMeta n = true) (hs : PySem.W.subIn K (.ref C) (.type n) = some b) : PySem.W.kitOne K (.ref C) (.type n) = some b := by
  unfold PySem.W.kitOne
  rw [if_neg (by simp)]
  unfold PySem.W.kitCls
  simp [hm, hs]
theorem excFn_of {prog : Program} {K : PySem.W.Frag} {fI C cda cc : Addr} {ps : List Str} {st : Stmt} {qual file : Str} {oc kV doc pm ct ccl cl : Value} {od an cdd cld : Option Addr} {osl ccs csl : Array (Option Value)} {vs : Array Value} {tf : Tok} {ar : Arg}
    (l1 : K.lookup fI = some ⟨oc, od, .func (PySem.W.ksFn "__init__" qual (defArgs st) (defBody st) (defScope st) .none kV doc pm an (.ref cda) ct cc), osl⟩) (c1 : PySem.W.codeIn K (.ref cda) qual = true) (lc : K.lookup cda = some ⟨ccl, cdd, .fields vs, ccs⟩) (v2 : vs[2]? = some (.str file tf))
    (hfile : ((prog.main.file : Str) == file) = true) (lcc : K.lookup cc = some ⟨cl, cld, .cell (some (.ref C)), csl⟩) (hp : ((defArgs st).posonlyargs ++ (defArgs st).args).head? = some ar) (hself : ar.arg = "self") (hks : (defScope st).names.lookup ("super" : Str) = some .globalImplicit)
    (hkc : (defScope st).names.lookup ("__class__" : Str) = some .free) (hnc : ∀ x ∈ (defScope st).names, x.2 ≠ .cell) (hco : (defScope st).isCoroutine = false) (hgen : (defScope st).isGenerator = false) (hk : (defScope st).kind = .function) (hloc : ∀ p ∈ ps, (defScope st).names.lookup p = some .local)
    (hbind : ∀ us : List Value, us.length = ps.length → bindArgs (PySem.W.ksFn "__init__" qual (defArgs st) (defBody st) (defScope st) .none kV doc pm an (.ref cda) ct cc) ⟨us, []⟩ = pure (ps.zip us)) (htop : (prog.main.scope.names.lookup ("super" : Str)).isSome = false) : ExcFn prog K fI C ps (defBody st) :=
  ⟨⟨qual, defArgs st, defScope st, oc, od, kV, doc, pm, an, cda, ct, osl, cc, ccl, cl, cdd, cld, vs, ccs, csl, file, tf, ar, l1, c1, lc, v2, hfile, lcc, hp, hself, hks, hkc, hnc, hco, hgen, hk, hloc, hbind⟩, htop⟩
theorem excT_of {K : PySem.W.Frag} {mg : Str → Option Value} {C fI N : Addr} {x nm q : Str} {fl : List Str} {bs bm sub : List Value} {sn : List Str} {ab : Bool} {col : Option Bool} {dd : Option Addr} {k0 k1 k2 k3 k5 : Option Value}
    (gC : mg x = some (.ref C)) (xL : K.lookup C = some (excClassObj nm q C N bs bm true sn sub ab col dd k0 k1 k2 k3 k5 "ValueError.__new__")) (hbm : PySem.HandSPX.refsVE bm = true) (sa : PySem.W.findIn K (.ref C) "__setattr__" = some (some (.builtin "object.__setattr__")))
    (ga : PySem.W.findIn K (.ref C) "__getattribute__" = some (some (.builtin "BaseException.__getattribute__"))) (gg : PySem.W.findIn K (.ref C) "__getattr__" = some none) (noN : ∀ n ∈ fl, PySem.W.findIn K (.ref C) n = some none) (iC : PySem.W.findIn K (.ref C) "__init__" = some (some (.ref fI))) (tC : PySem.W.typeIn K (.ref fI) = some (.type "function"))
    (kC : PySem.W.keepIn K (.ref C) = true) (exC : PySem.W.subIn K (.ref C) (.type "BaseException") = some true) (exV : PySem.W.subIn K (.ref C) (.type "ValueError") = some true) (tyC : PySem.W.typeIn K (.ref C) = some (.type "type")) (hdC : PySem.W.hasDictIn K C = true) (slf : PySem.W.mroIn K C (.ref C) = some true)
    (sup : PySem.W.ks_superIn K C C "__init__" = some (some (.builtin "ValueError.__init__"))) (tpy : PySem.W.nsIn K cStatics "thirdparty.any" = some none) (sg : mg "super" = none) : ExcT K mg C fI x fl :=
  ⟨gC, ⟨nm, q, N, bs, bm, sn, sub, ab, col, dd, k0, k1, k2, k3, k5, xL, hbm⟩, sa, ga, gg, noN, iC, tC, kC, exC, exV, tyC, hdC, slf, sup, tpy, sg⟩
theorem forall_nil {α : Type} {p : α → Prop} : ∀ n ∈ ([] : List α), p n := fun _ h => nomatch h
theorem forall_cons {α : Type} {p : α → Prop} {a : α} {l : List α} (h : p a) (r : ∀ n ∈ l, p n) : ∀ n ∈ a :: l, p n := fun n hn => by
  rcases List.mem_cons.mp hn with e | e
  · rw [e]; exact h
  · exact r n e
/-- the law's own promise: True at a script of at most n numbers -/
def ScrK (K : PySem.W.Frag) (H : Hp) (a : Addr) (ns : List Int) : Prop := (∃ o, H a = some (.frz o (.lst (ns.map V.int)))) ∨
  ∃ (o : Obj) (its : Array Value) (n : Nat), K.lookup a = some o ∧ o.cls = .type "list" ∧ o.dict = none ∧ o.data = .seq its n ∧ its.size ≤ sizeLine ∧ Vals (ns.map V.int) its.toList
def spL (n : Nat) (K : PySem.W.Frag) : Sp := fun vs H Q _ => ∃ a ns, vs = [V.ref a] ∧ ns.length ≤ n ∧ ScrK K H a ns ∧ ∀ H', Q (.bl true) H'
theorem scr_of {K : PySem.W.Frag} {H : Hp} {a : Addr} {ns : List Int} (hO : Only H) (h : SqL K H a (ns.map V.int)) : ScrK K H a ns := by
  rcases h with (h | ⟨o, h⟩) | ⟨o, its, n, h1, h2, h3, h4, h5, h6⟩
  · rcases hO a with e | ⟨o, xs, e⟩
    · rw [e] at h; cases h
    · rw [e] at h; cases h
  · exact .inl ⟨o, h⟩
  · exact .inr ⟨o, its, n, h1, h2, h3, h4, h5, h6⟩
theorem rg_nil {T : Tab} {H : Hp} : RG T [] H [] := ⟨by simp, rfl, fun l o a h => by simp at h⟩
theorem law_end {P : Program} {w : World} {K : PySem.W.Frag} {mg : Str → Option Value} {base : Heap} {T : Tab} {k f n : Nat} {fd : FuncData} {ps : List Str} {m : FN} (hK : T.K = K) (F : FnOk P w K mg base (L2.CX P w) k f fd ps (LF T 1 m)) (hm : ∀ ns : List Int, ns.length ≤ n → ∃ g, m [.scr ns] [] = .ok (.bl true) g) :
    FnOk P w K mg base (L2.CX P w) k f fd ps (spL n K) := F.imp fun vs H Q E h => by
  obtain ⟨a, ns, rfl, hl, hs, hq⟩ := h
  obtain ⟨g, e⟩ := hm ns hl
  refine ⟨[], [.scr ns], [], rg_nil, .cons ?_ .nil, rfl, ?_⟩
  · simp only [RW]
    exact ⟨a, rfl, by unfold Scr; rw [hK]; exact hs⟩
  · rw [e]
    intro ρ' H' b gr R r
    cases rw_bl r
    exact hq H'
theorem law_walk {l : PySem.W.OpenLaw} {n k : Nat} {q : Program} {loose : List Str} {XP : (Str → Option Value) → Heap → Prop} {YP : World → Heap → Prop} {d : DefRec} {K : Params → PySem.W.Frag} {x : Str} (hn : l.most = some n) (hn2 : n ≤ sizeLine) (hdf : d.params.defaults = []) (hr : Room k callerA)
    (hY : ∀ (w : World) (h : Heap), YP w h → (K w.params).In h)
    (F : ∀ (w : World) (mg : Str → Option Value) (fa : Addr) (h : Heap), (K w.params).In h → h.Ns mainGlobals mg → mg d.name = some (.ref fa) →
      ∃ fd : FuncData, (∀ (s : Shared) (u : Value), BindsTo s fd ⟨[u], []⟩ [(x, u)]) ∧ ∀ base : Heap, (K w.params).In base → base.Ns mainGlobals mg → FnOk l.prog w (K w.params) mg base (L2.CX l.prog w) k fa fd [x] (spL n (K w.params))) :
    PySem.W.WalkO q loose XP YP l.row.toRowW d [] (fun f vs => PySem.call f vs) :=
  L2.walk_of (n := n) (k := k) (x := x) (CX := fun w => L2.CX l.prog w) (sp := fun w => spL n (K w.params)) hn hn2 hdf hr hY F (fun _ _ a ns hl hO hS => ⟨a, ns, rfl, hl, scr_of hO hS, fun _ => rfl⟩) fun w H s e s' h => by
    obtain ⟨_, _, _, _, _, _, _, _, _, _, _, _, z⟩ := h
    exact z
end WL
end
section
set_option maxRecDepth 100000
namespace WL
open PySem PySem.Spec L2
open PyProof.Rows hiding St
set_option autoImplicit true
variable {T : Tab}
section
variable {X : Cx} {Wx : WX} {pos : Pos} {e o : Expr} {es : List Expr} {ma mo : ED} {mas : AD}
def signsW (s : Str) : List W := s.cps.toList.map fun c => .str ⟨#[c]⟩
def iTxt (a : ED) : ID := fun σ g => (a σ g).bind fun x g => match x with
  | .str s => .ok ⟨signsW s, none⟩ g
  | _ => .bad
theorem itRel_str {ρ0 H0} {s : Str} : ItRel T ρ0 H0 ⟨signsW s, none⟩ (Its s) := by
  refine ⟨fun ρ H g i gr R st hi => ?_, fun ρ H g i w gr R st hi => ?_, fun ρ H g i w x H' gr R st hi y => ?_⟩
  · show s.cps.size ≤ i
    simpa [signsW] using hi
  · have := (List.getElem?_eq_some_iff.mp hi).1
    show i < s.cps.size
    simpa [signsW] using this
  · obtain ⟨rfl, c, hc, rfl⟩ := y
    have : w = .str ⟨#[c]⟩ := by
      have hi' : ((s.cps.toList)[i]?).map (fun c => W.str ⟨#[c]⟩) = some w := by simpa [signsW] using hi
      rw [Array.getElem?_toList, hc] at hi'
      exact (Option.some.inj hi').symm
    subst this
    exact ⟨ρ, .refl, R, rws⟩
theorem li_txt {tg : Expr} (h : PE X e (LE T Wx ma)) : PI X tg e (LI T Wx (iTxt ma)) := (pi_str h).imp fun σ H R h => by
  obtain ⟨ρ, σw, g, hs, hg, he⟩ := h
  refine ⟨ρ, σw, g, hs, hg, EndR.bind he fun x g1 ρ1 H1 vx gr1 R1 rx he1 => ?_⟩
  cases x with
  | str s => cases rw_str rx; exact ⟨s, rfl, he1 ρ1 H1 _ .refl R1 itRel_str⟩
  | _ => exact he1.elim
theorem le_cvalI {C : Addr} {i : Int} {x f : Str} {xp : Pos} (h : ∃ mc t, ClX.CRead X.K C mc ∧ ClX.CVal X.K C mc f (.int i) (.int i t)) (hm : X.mg x = some (.ref C)) (hg : Gl X x := by rfl) (hdb : (x == ("__debug__" : Str)) = false := by decide)
    (hb : attributeBase (.Name x xp) f X.env (eval (.Name x xp) X.env) = eval (.Name x xp) X.env := by rfl) : PE X (.Attribute (.Name x xp) f pos) (LE T Wx (eC (.int i))) := by
  obtain ⟨mc, t, r, k⟩ := h
  exact le_cval r k hm (fun _ _ => rwi) hg hdb hb
def ConOk (K : PySem.W.Frag) (T : Tab) (nm : Str) (cs : List (Nat × W)) : Prop := ∀ c C w, getW c cs = some w → T.cls c = some C → ∃ v u, Con K C nm v u ∧ ∀ ρ H, RW T ρ H w v
theorem ConOk.nil {K nm} : ConOk K T nm [] := fun c C w h => by cases h
theorem ConOk.consI {K nm} {c : Nat} {i : Int} {cs : List (Nat × W)} (h : ∀ C, T.cls c = some C → ∃ t, Con K C nm (.int i) (.int i t)) (r : ConOk K T nm cs) : ConOk K T nm ((c, .int i) :: cs) := fun c' C w hg hc => by
  simp only [getW] at hg
  split at hg
  · rename_i e
    subst e
    cases hg
    obtain ⟨t, k⟩ := h C hc
    exact ⟨_, _, k, fun _ _ => rwi⟩
  · exact r c' C w hg hc
abbrev CallC (K : PySem.W.Frag) (C f : Addr) : Prop := StX.CallO K C f
def eCallO (d : Disp) (o : ED) (a : AD) : ED := fun σ g => (o σ g).bind fun x g => match x with
  | .ref l => (a σ g).bind fun ws g => match insAt g (.ref l) with
    | some (_, c, _) => match getD c d with
      | some F => F (.ref l :: ws) g
      | none => .bad
    | none => .bad
  | _ => .bad
def DispC (X : Cx) (T : Tab) (d : Disp) : Prop := ∀ c F C, getD c d = some F → T.cls c = some C → ∃ f k n m, F = arity n m ∧ FnE X.prog X.w X.K X.mg X.base T k f n m ∧ Room k X.A ∧ CallC X.K C f
theorem DispC.nil : DispC X T [] := fun c F C h => by cases h
theorem DispC.cons {c f k n m} {d : Disp} (F : FnE X.prog X.w X.K X.mg X.base T k f n m) (hr : Room k X.A) (h : ∀ C, T.cls c = some C → CallC X.K C f) (r : DispC X T d) : DispC X T ((c, arity n m) :: d) := fun c' F' C hg hc => by
  simp only [getD] at hg
  split at hg
  · rename_i e
    subst e
    cases hg
    exact ⟨f, k, n, m, rfl, F, hr, h C hc⟩
  · exact r c' F' C hg hc
theorem le_callO {d : Disp} (hK : X.K = T.K) (tk : Takes X Wx) (hd : DispC X T d) (ho : PE X o (LE T Wx mo)) (ha : PA X (e :: es) (LA T Wx mas))
    (ht : eval (.Call o (e :: es) [] pos) X.env = (do callWith pos (← eval o X.env) [] (backTo pos (starEach (e :: es) X.env)) (backToKw pos (keywordEach [] X.env))) := by rfl)
    (he : starEach (e :: es) X.env = (false, eval e X.env) :: starEach es X.env := by rfl) (hpl : (backTo pos (starEach es X.env)).any (·.1) = false := by rfl) : PE X (.Call o (e :: es) [] pos) (LE T Wx (eCallO d mo mas)) := by
  refine ⟨fun pins s σ H Q I h => ?_⟩
  obtain ⟨ρ, σw, g, hs, hg, hh⟩ := h
  refine Call_ (thn (ho.run pins s σ H _ I ⟨ρ, σw, g, hs, hg, EndR.bind (Q' := fun vx H1 => ∃ ρ1 x g1, RS T ρ1 H1 σw σ ∧ RG T ρ1 H1 g1 ∧ RW T ρ1 H1 x vx ∧ EndR (RWr T) T Wx σ ρ1 H1 Q (match x with
    | .ref l => (mas σw g1).bind fun ws g => match insAt g (.ref l) with
      | some (_, c, _) => match getD c d with
        | some F => F (.ref l :: ws) g
        | none => .bad
      | none => .bad
    | _ => .bad)) hh fun x g1 ρ1 H1 vx gr1 R1 rx he1 => ⟨ρ1, x, g1, hs.mono gr1 _ _, R1, rx, he1⟩⟩) fun u s1 ⟨vx, H1, I1, r1, ρ1, x, g1, hs1, R1, rx, he1⟩ => ?_) ht
  cases x with
  | ref l =>
    obtain ⟨a, _, rfl⟩ := rw_ref rx
    obtain rfl : u = Value.ref a := r1
    have fin := EndR.bind (rel' := RWsr T) (Q' := fun vs H2 => ∃ ρ2 xs g2, RG T ρ2 H2 g2 ∧ RW T ρ2 H2 (.ref l) (.ref a) ∧ RWs T ρ2 H2 xs vs ∧ EndR (RWr T) T Wx σ ρ2 H2 Q (match insAt g2 (.ref l) with
      | some (_, c, _) => match getD c d with
        | some F => F (.ref l :: xs) g2
        | none => .bad
      | none => .bad)) he1 fun xs g2 ρ2 H2 vs gr2 R2 rxs he2 => ⟨ρ2, xs, g2, R2, rx.mono gr2 _ _, rxs, he2⟩
    have args := ha.run pos pins s1 σ H1 _ I1 ⟨ρ1, σw, g1, hs1, R1, fin⟩
    refine StX.callO_with (thn args fun us s2 ⟨vs, H2, I2, r2, ρ2, xs, g2, R2, rx2, rxs, he2⟩ => ?_) he hpl
    cases hx : insAt g2 (.ref l) with
    | none => rw [hx] at he2; exact he2.elim
    | some q =>
      obtain ⟨l', c, fs⟩ := q
      rw [hx] at he2
      dsimp only at he2
      obtain ⟨a', C, dx, vs', e1, ha', e2, h1, cw, hH, rf, hg'⟩ := insAt_ok R2 rx2 hx
      cases e1
      cases e2
      cases hF : getD c d with
      | none => rw [hF] at he2; exact he2.elim
      | some F =>
        rw [hF] at he2
        dsimp only at he2
        obtain ⟨f, k, n, m, rfl, FF, hr, cc⟩ := hd c F C hF h1
        obtain ⟨od, J⟩ := inst_at I2 hH
        refine ⟨⟨C, _, _, J, rfl⟩, ?_⟩
        show wpAny _ _ (call (.ref a) us) _ _ _
        have run := run_code (A' := X.A) (us := .ref a :: us) (vs := .ref a :: vs) FF hr I2.env0 tk I2 R2 (.cons rx2 rxs) (.cons rfl r2) he2
        refine wpAny_call (PySem.W.kco_code I2.kIn J rfl cc.at_ cc.fn cc.fi (codeAny_mono run fun r s' hq => ?_))
        rcases r with e | (v | _ | _ | _)
        · exact hq
        · exact hq.elim
        · exact hq.elim
        · exact hq.elim
        · exact hq
  | _ => exact he1.elim
end
end WL
end
section
set_option maxRecDepth 100000
set_option maxHeartbeats 1000000
namespace WL
open PySem PySem.Spec L2
open PyProof.Rows hiding St
set_option autoImplicit true
variable {T : Tab}
section
variable {P : Program} {w : World} {K : PySem.W.Frag} {mg : Str → Option Value} {base : Heap}
theorem fnOk_of [NoEx T] {x qual : Str} {st : Stmt} {f : Addr} {fd : FuncData} {N ps : List Str} {k n : Nat} {body : SD} (F : Fun K x qual st f fd) (S : FnScope N ps (defScope st)) (hn : ps.length = n)
    (hbody : ∀ (cdv : Value) (A : Around) (outer : List Env) (s : Shared) (H : Hp) (E : XK), Room k (A.deeper (envOfC qual (defScope st) s.heap.objs.size f cdv)) →
      PSs (cxOf (L2.CX P w) P w K mg base N qual (defScope st) f cdv A outer s H E) (defBody st) (LS T (fun cls d _ H => E cls d H) body)) : FnOk P w K mg base (L2.CX P w) (k + 1) f fd ps (LF T n (fnW N.length body)) := by
  refine F.okX S (fun vs H Q E h => by rw [hn]; exact LF.len _ _ _ _ h) fun cdv A outer s H vs Q E hr h => ⟨_, hbody cdv A outer s H E hr, ?_⟩
  obtain ⟨ρ, ws, g, R, r, e, he⟩ := h
  refine ⟨ρ, startW N.length ws, g, start_rs r, R, ?_⟩
  unfold fnW at he
  cases hb : body (startW N.length ws) g with
  | nx σ g => rw [hb] at he; exact fun ρ' H' σ' gr R' r' => he ρ' H' .non gr R' (by simp only [RWr, RW])
  | rt w g => rw [hb] at he; exact he
  | bk σ g => rw [hb] at he; exact he.elim
  | ct σ g => rw [hb] at he; exact he.elim
  | ex c fs σ g => rw [hb] at he; exact fun ρ' H' σ' C d vs gr R' r' => he ρ' H' C d vs gr R'
  | bad => rw [hb] at he; exact he.elim
end
section
open PySem.W
variable {P : Program} {w : World} {K : Frag} {mg : Str → Option Value} {h : Heap} {C L fI N cda cc : Addr} {x f1 f2 nm q qual file : Str} {bs sub : List Value} {sn : List Str} {ab : Bool} {col : Option Bool} {dd : Option Addr} {k0 k1 k2 k3 k5 : Option Value} {oc kV doc pm ct ccl cl : Value} {od an cdd cld : Option Addr} {osl ccs csl : Array (Option Value)} {vs : Array Value} {tf : Tok} {ar : Arg} {st : Stmt}
  {q0 q1 q2 q3 q4 q5 a1 a2 a3 a4 b1 b2 b3 b4 : Pos} {j : Nat} {msg : Str}
/-- what k_is finds of such a class, one field -/
theorem excA1 (X : K.In h) (G : h.Ns mainGlobals mg) (aC : nsIn K mainGlobals x = some (some (.ref C))) (xL : K.lookup C = some (excClassObj nm q C N bs (.ref L :: [.type "ValueError", .type "Exception", .type "BaseException", .type "object"]) true sn sub ab col dd k0 k1 k2 k3 k5 "ValueError.__new__"))
    (sa : findIn K (.ref C) "__setattr__" = some (some (.builtin "object.__setattr__"))) (ga : findIn K (.ref C) "__getattribute__" = some (some (.builtin "BaseException.__getattribute__"))) (gg : findIn K (.ref C) "__getattr__" = some none) (n1 : findIn K (.ref C) f1 = some none)
    (iC : findIn K (.ref C) "__init__" = some (some (.ref fI))) (tC : typeIn K (.ref fI) = some (.type "function")) (kC : keepIn K (.ref C) = true) (exC : subIn K (.ref C) (.type "BaseException") = some true) (exV : subIn K (.ref C) (.type "ValueError") = some true) (tyC : typeIn K (.ref C) = some (.type "type"))
    (hdC : hasDictIn K C = true) (slf : mroIn K C (.ref C) = some true) (sup : ks_superIn K C C "__init__" = some (some (.builtin "ValueError.__init__"))) (tpy : nsIn K cStatics "thirdparty.any" = some none) (sg : nsIn K mainGlobals "super" = some none)
    (l1 : K.lookup fI = some ⟨oc, od, .func (ksFn "__init__" qual (defArgs st) (defBody st) (defScope st) .none kV doc pm an (.ref cda) ct cc), osl⟩) (c1 : codeIn K (.ref cda) qual = true) (lc : K.lookup cda = some ⟨ccl, cdd, .fields vs, ccs⟩) (v2 : vs[2]? = some (.str file tf))
    (lcc : K.lookup cc = some ⟨cl, cld, .cell (some (.ref C)), csl⟩) (sL : subIn K (.ref C) (.ref L) = some true) (exL : subIn K (.ref L) (.type "BaseException") = some true) (hdL : hasDictIn K L = true) (tyL : typeIn K (.ref L) = some (.type "type"))
    (ha : findIn K (.ref C) "__class__" = some (some (.builtin "object.__class__"))) (hn : specialIn K (.builtin "object.__class__") "__get__" = some (some (.builtin "getset_descriptor.__get__"))) (ht : takesIn K (.builtin "object.__class__") = some true) (hm : mroIn K C (.type "object") = some true)
    (hb : defBody st = [supS q0 q1 q2 q3 q4 q5 j msg, stoS f1 a1 a2 a3 a4]) (hfile : ((P.main.file : Str) == file) = true) (hp : ((defArgs st).posonlyargs ++ (defArgs st).args).head? = some ar) (hself : ar.arg = "self") (hks : (defScope st).names.lookup ("super" : Str) = some .globalImplicit)
    (hkc : (defScope st).names.lookup ("__class__" : Str) = some .free) (hnc : ∀ x ∈ (defScope st).names, x.2 ≠ .cell) (hco : (defScope st).isCoroutine = false) (hgen : (defScope st).isGenerator = false) (hk : (defScope st).kind = .function) (hloc : ∀ p ∈ (["self", f1] : List Str), (defScope st).names.lookup p = some .local)
    (hbind : ∀ us : List Value, us.length = (["self", f1] : List Str).length → bindArgs (ksFn "__init__" qual (defArgs st) (defBody st) (defScope st) .none kV doc pm an (.ref cda) ct cc) ⟨us, []⟩ = pure ((["self", f1] : List Str).zip us)) (htop : (P.main.scope.names.lookup ("super" : Str)).isSome = false)
    (hne : f1 ≠ "self") (hdb : (f1 == ("__debug__" : Str)) = false) (hev : ∀ qx scope L cda cc, scope.names.lookup ("super" : Str) = some NameKind.globalImplicit → ∃ pl, SupEv q0 q1 q2 q3 q4 j msg (ksEnv qx scope L fI (.ref cda) cc) pl) : ExcA P w K mg C L x [f1] := by
  have TT : ExcT K mg C fI x [f1] := excT_of (mg_of X G aC) xL rfl sa ga gg (forall_cons n1 forall_nil) iC tC kC exC exV tyC hdC slf sup tpy (mg_none_of X G sg)
  have FF : ExcFn P K fI C ["self", f1] (defBody st) := excFn_of l1 c1 lc v2 hfile lcc hp hself hks hkc hnc hco hgen hk hloc hbind htop
  rw [hb] at FF
  exact ⟨⟨fI, TT, initP1 TT (by simp) FF hne hdb hev⟩, exm_ref exL hdL tyL sL, ⟨ga, gg, exC, hdC⟩, ⟨ga, gg, exC, hdC, ha, hn, ht, hm⟩⟩
theorem excA2 (X : K.In h) (G : h.Ns mainGlobals mg) (aC : nsIn K mainGlobals x = some (some (.ref C))) (xL : K.lookup C = some (excClassObj nm q C N bs (.ref L :: [.type "ValueError", .type "Exception", .type "BaseException", .type "object"]) true sn sub ab col dd k0 k1 k2 k3 k5 "ValueError.__new__"))
    (sa : findIn K (.ref C) "__setattr__" = some (some (.builtin "object.__setattr__"))) (ga : findIn K (.ref C) "__getattribute__" = some (some (.builtin "BaseException.__getattribute__"))) (gg : findIn K (.ref C) "__getattr__" = some none) (n1 : findIn K (.ref C) f1 = some none) (n2 : findIn K (.ref C) f2 = some none)
    (iC : findIn K (.ref C) "__init__" = some (some (.ref fI))) (tC : typeIn K (.ref fI) = some (.type "function")) (kC : keepIn K (.ref C) = true) (exC : subIn K (.ref C) (.type "BaseException") = some true) (exV : subIn K (.ref C) (.type "ValueError") = some true) (tyC : typeIn K (.ref C) = some (.type "type"))
    (hdC : hasDictIn K C = true) (slf : mroIn K C (.ref C) = some true) (sup : ks_superIn K C C "__init__" = some (some (.builtin "ValueError.__init__"))) (tpy : nsIn K cStatics "thirdparty.any" = some none) (sg : nsIn K mainGlobals "super" = some none)
    (l1 : K.lookup fI = some ⟨oc, od, .func (ksFn "__init__" qual (defArgs st) (defBody st) (defScope st) .none kV doc pm an (.ref cda) ct cc), osl⟩) (c1 : codeIn K (.ref cda) qual = true) (lc : K.lookup cda = some ⟨ccl, cdd, .fields vs, ccs⟩) (v2 : vs[2]? = some (.str file tf))
    (lcc : K.lookup cc = some ⟨cl, cld, .cell (some (.ref C)), csl⟩) (sL : subIn K (.ref C) (.ref L) = some true) (exL : subIn K (.ref L) (.type "BaseException") = some true) (hdL : hasDictIn K L = true) (tyL : typeIn K (.ref L) = some (.type "type"))
    (ha : findIn K (.ref C) "__class__" = some (some (.builtin "object.__class__"))) (hn : specialIn K (.builtin "object.__class__") "__get__" = some (some (.builtin "getset_descriptor.__get__"))) (ht : takesIn K (.builtin "object.__class__") = some true) (hm : mroIn K C (.type "object") = some true)
    (hb : defBody st = [supS q0 q1 q2 q3 q4 q5 j msg, stoS f1 a1 a2 a3 a4, stoS f2 b1 b2 b3 b4]) (hfile : ((P.main.file : Str) == file) = true) (hp : ((defArgs st).posonlyargs ++ (defArgs st).args).head? = some ar) (hself : ar.arg = "self") (hks : (defScope st).names.lookup ("super" : Str) = some .globalImplicit)
    (hkc : (defScope st).names.lookup ("__class__" : Str) = some .free) (hnc : ∀ x ∈ (defScope st).names, x.2 ≠ .cell) (hco : (defScope st).isCoroutine = false) (hgen : (defScope st).isGenerator = false) (hk : (defScope st).kind = .function) (hloc : ∀ p ∈ (["self", f1, f2] : List Str), (defScope st).names.lookup p = some .local)
    (hbind : ∀ us : List Value, us.length = (["self", f1, f2] : List Str).length → bindArgs (ksFn "__init__" qual (defArgs st) (defBody st) (defScope st) .none kV doc pm an (.ref cda) ct cc) ⟨us, []⟩ = pure ((["self", f1, f2] : List Str).zip us)) (htop : (P.main.scope.names.lookup ("super" : Str)).isSome = false)
    (hne : f1 ≠ "self") (hne2 : f2 ≠ "self") (h12 : f1 ≠ f2) (hdb : (f1 == ("__debug__" : Str)) = false) (hdb2 : (f2 == ("__debug__" : Str)) = false) (hev : ∀ qx scope L cda cc, scope.names.lookup ("super" : Str) = some NameKind.globalImplicit → ∃ pl, SupEv q0 q1 q2 q3 q4 j msg (ksEnv qx scope L fI (.ref cda) cc) pl) : ExcA P w K mg C L x [f1, f2] := by
  have TT : ExcT K mg C fI x [f1, f2] := excT_of (mg_of X G aC) xL rfl sa ga gg (forall_cons n1 (forall_cons n2 forall_nil)) iC tC kC exC exV tyC hdC slf sup tpy (mg_none_of X G sg)
  have FF : ExcFn P K fI C ["self", f1, f2] (defBody st) := excFn_of l1 c1 lc v2 hfile lcc hp hself hks hkc hnc hco hgen hk hloc hbind htop
  rw [hb] at FF
  exact ⟨⟨fI, TT, initP2 TT (by simp) (by simp) FF hne hne2 h12 hdb hdb2 hev⟩, exm_ref exL hdL tyL sL, ⟨ga, gg, exC, hdC⟩, ⟨ga, gg, exC, hdC, ha, hn, ht, hm⟩⟩
end
theorem kit_self {K : PySem.W.Frag} {v : Value} : PySem.W.kitOne K v v = some true := by
  unfold PySem.W.kitOne
  simp
/-- the own __iter__'s facts -/
theorem iterC_of {K : PySem.W.Frag} {C fI : Addr} {F qual : Str} {st : Stmt} {oc kV doc pm cdv ct : Value} {od an : Option Addr} {osl : Array (Option Value)} {p1 p2 p3 p4 p5 : Pos} (it : PySem.W.findIn K (.ref C) "__iter__" = some (some (.ref fI))) (itF : PySem.W.isFn K (.ref fI) = true)
    (l : K.lookup fI = some ⟨oc, od, .func (PySem.W.fnOf "__iter__" qual (defArgs st) (defBody st) (defScope st) .none kV doc pm an cdv ct), osl⟩) (c : PySem.W.codeIn K cdv qual = true) (hb : defBody st = [.Return (some (.Call (.Name "iter" p1) [.Attribute (.Name "self" p2) F p3] [] p4)) p5])
    (hks : (defScope st).names.lookup ("self" : Str) = some .local) (hki : (defScope st).names.lookup ("iter" : Str) = some .globalImplicit) (hco : (defScope st).isCoroutine = false) (hgen : (defScope st).isGenerator = false) (hk : (defScope st).kind = .function)
    (hbind : ∀ v : Value, bindArgs (PySem.W.fnOf "__iter__" qual (defArgs st) (defBody st) (defScope st) .none kV doc pm an cdv ct) ⟨[v], []⟩ = pure [(("self" : Str), v)]) : IterC K C fI F := by
  rw [hb] at l hbind
  exact ⟨it, itF, qual, defArgs st, defScope st, oc, od, kV, doc, pm, cdv, ct, an, osl, p1, p2, p3, p4, p5, l, c, hks, hki, hco, hgen, hk, fun s v => .of_eq (hbind v)⟩
end WL
end
section
set_option maxRecDepth 100000
namespace WL
open PySem PySem.Spec L2 PySem.W
open PyProof.Rows hiding St
open Builtin Builtin.Str Builtin.Int
set_option autoImplicit true
abbrev sp8 : Str := ⟨#[60, 56]⟩
abbrev sp2 : Str := ⟨#[62, 50]⟩
theorem hp8 : Float.parseFormatSpec sp8.cps.toList "str" 60 = .ok ⟨32, 60, none, false, false, some 8, none, none, none⟩ := by rfl
theorem fmt_s8 (x : Str) (hx : x.length ≤ 1000) (t u : Tok) : Meets («str.__format__» ⟨[.str x t, .str sp8 u], []⟩) (fun _ R s => ∀ t' k, R (.ok (.ret (.str (Txt.ljust x 8) t'))) { s with toks := k }) := by
  apply KPc.meets_of
  intro _ _ _ _ _ _ _
  unfold Builtin.«str.__format__»
  refine wpAny_bind (wpAny_of_eq (a := (_, _, _)) rfl ?_)
  refine wpAny_bind (wpAny_of_eq (a := some _) rfl ?_)
  kxf_if
  kxf_if
  refine wpAny_bind (KXf.cut_str ?_)
  rw [hp8]
  have c1 : ((#[60, 56] : Array Nat).back? == some 0) = false := by decide
  have c2 : tooLong 8 = false := by decide
  by_cases h : 8 ≤ x.length
  · have e : strField x ⟨32, 60, none, false, false, some 8, none, none, none⟩ "str" = .ok none := by
      simp [strField, h, bind, Except.bind, pure, Except.pure]
    simp only [bind, Except.bind, pure, Except.pure, Option.isNone, Option.getD, c1, c2, Bool.and_false, Bool.false_eq_true, if_false, e]
    refine wpAny_bind (wpAny_rule ?_)
    refine KXf.ret_same (T := Txt.ljust x 8) ?_ ?_
    · unfold Txt.ljust
      rw [if_pos (by omega)]
    · assumption
  · have e : strField x ⟨32, 60, none, false, false, some 8, none, none, none⟩ "str" = .ok (some (padded x 0 (8 - x.length) 32)) := by
      have es : strSub x 0 x.length = x := by simp [strSub, Str.length]
      simp [strField, h, bind, Except.bind, pure, Except.pure, es]
    simp only [bind, Except.bind, pure, Except.pure, Option.isNone, Option.getD, c1, c2, Bool.and_false, Bool.false_eq_true, if_false, e]
    refine KXf.ret_text (T := Txt.ljust x 8) ?_ ?_ ?_
    · unfold Txt.ljust
      rw [if_neg (by omega)]
      rfl
    · have : 1000 ≤ sizeLine := by decide
      simp [padded, Str.length]
      have : x.cps.size ≤ 1000 := hx
      omega
    · assumption
theorem fmt_i2_0 (t : Tok) : ∀ u, Meets («int.__format__» ⟨[.int 0 t, .str sp2 u], []⟩) (fun _ R s => ∀ t' k, R (.ok (.ret (.str (⟨#[32, 48]⟩ : Str) t'))) { s with toks := k }) := by
  kxf_run_i
theorem fmt_i2_1 (t : Tok) : ∀ u, Meets («int.__format__» ⟨[.int 1 t, .str sp2 u], []⟩) (fun _ R s => ∀ t' k, R (.ok (.ret (.str (⟨#[32, 49]⟩ : Str) t'))) { s with toks := k }) := by
  kxf_run_i
theorem fmt_i2_2 (t : Tok) : ∀ u, Meets («int.__format__» ⟨[.int 2 t, .str sp2 u], []⟩) (fun _ R s => ∀ t' k, R (.ok (.ret (.str (⟨#[32, 50]⟩ : Str) t'))) { s with toks := k }) := by
  kxf_run_i
theorem fmt_i2_3 (t : Tok) : ∀ u, Meets («int.__format__» ⟨[.int 3 t, .str sp2 u], []⟩) (fun _ R s => ∀ t' k, R (.ok (.ret (.str (⟨#[32, 51]⟩ : Str) t'))) { s with toks := k }) := by
  kxf_run_i
theorem rj : ∀ n : Fin 4, Txt.rjust (toString ((n.val : Nat) : Int)) 2 = (⟨#[32, 48 + n.val]⟩ : Str) := by decide +kernel
theorem fmt_i2 (a : Int) (h0 : 0 ≤ a) (h1 : a < 4) (t u : Tok) : Meets («int.__format__» ⟨[.int a t, .str sp2 u], []⟩) (fun _ R s => ∀ t' k, R (.ok (.ret (.str (Txt.rjust (toString a) 2) t'))) { s with toks := k }) := by
  obtain ⟨n, rfl⟩ : ∃ n : Fin 4, a = ((n.val : Nat) : Int) := ⟨⟨a.toNat, by omega⟩, by show a = ((a.toNat : Nat) : Int); omega⟩
  rw [rj n]
  match n with
  | ⟨0, _⟩ => exact fmt_i2_0 t u
  | ⟨1, _⟩ => exact fmt_i2_1 t u
  | ⟨2, _⟩ => exact fmt_i2_2 t u
  | ⟨3, _⟩ => exact fmt_i2_3 t u
  | ⟨n + 4, h⟩ => exact absurd h (by omega)
end WL
end
section
set_option maxRecDepth 100000
namespace WL
open PySem PySem.Spec L2 PySem.W
open PyProof.Rows hiding St
set_option autoImplicit true
variable {T : Tab} {X : Cx} {Wx : WX} {pos : Pos} {e a b : Expr} {ma mb : ED} {rest : List Expr}
/-- x or y, whatever the values are -/
def eOrT (a b : ED) : ED := fun σ g => (a σ g).bind fun x g => match truW g x with
  | some true => .ok x g
  | some false => b σ g
  | none => .bad
def eAndT (a b : ED) : ED := fun σ g => (a σ g).bind fun x g => match truW g x with
  | some true => b σ g
  | some false => .ok x g
  | none => .bad
theorem le_orT (hK : X.K = T.K) (ha : PE X a (LE T Wx ma)) (hb : PE X (.BoolOp .Or (b :: rest) pos) (LE T Wx mb)) : PE X (.BoolOp .Or (a :: b :: rest) pos) (LE T Wx (eOrT ma mb)) := (pe_orT ha hb).imp fun σ H Q h => by
  obtain ⟨ρ, σw, g, hs, hg, he⟩ := h
  refine ⟨ρ, σw, g, hs, hg, EndR.bind he fun x g1 ρ1 H1 vx gr1 R1 rx he1 => ?_⟩
  cases hx : truW g1 x with
  | none => rw [hx] at he1; exact he1.elim
  | some k =>
    rw [hx] at he1
    refine ⟨k, by rw [hK]; exact tru_of R1 rx hx, ?_⟩
    cases k with
    | true => exact he1 ρ1 H1 _ .refl R1 rx
    | false => exact ⟨ρ1, σw, g1, hs.mono gr1 _ _, R1, he1⟩
theorem le_andT (hK : X.K = T.K) (ha : PE X a (LE T Wx ma)) (hb : PE X (.BoolOp .And (b :: rest) pos) (LE T Wx mb)) : PE X (.BoolOp .And (a :: b :: rest) pos) (LE T Wx (eAndT ma mb)) := (pe_andT ha hb).imp fun σ H Q h => by
  obtain ⟨ρ, σw, g, hs, hg, he⟩ := h
  refine ⟨ρ, σw, g, hs, hg, EndR.bind he fun x g1 ρ1 H1 vx gr1 R1 rx he1 => ?_⟩
  cases hx : truW g1 x with
  | none => rw [hx] at he1; exact he1.elim
  | some k =>
    rw [hx] at he1
    refine ⟨k, by rw [hK]; exact tru_of R1 rx hx, ?_⟩
    cases k with
    | true => exact ⟨ρ1, σw, g1, hs.mono gr1 _ _, R1, he1⟩
    | false => exact he1 ρ1 H1 _ .refl R1 rx
def fmtE (f : W → Option Str) (a : ED) : ED := fun σ g => (a σ g).bind fun x g => match f x with
  | some y => .ok (.str y) g
  | none => .bad
def fmtS : W → Option Str
  | .str y => if fits y.length then some y else none
  | .int i => if i.natAbs < 2 ^ 64 then some (toString i) else none
  | _ => none
def fmtS8 : W → Option Str
  | .str y => if y.length ≤ 1000 then some (Txt.ljust y 8) else none
  | _ => none
def fmtI2 : W → Option Str
  | .int i => if 0 ≤ i ∧ i < 4 then some (Txt.rjust (toString i) 2) else none
  | _ => none
def tFmtS8 (te : TE) : TE := fun σ H Q => te σ H fun x H1 => ∃ y : Str, x = .str y ∧ y.length ≤ 1000 ∧ Q (.str (Txt.ljust y 8)) H1
def tFmtI2 (te : TE) : TE := fun σ H Q => te σ H fun x H1 => ∃ i : Int, x = .int i ∧ 0 ≤ i ∧ i < 4 ∧ Q (.str (Txt.rjust (toString i) 2)) H1
theorem pe_fmtS8 {te : TE} {j : Nat} {p p' : Pos} (he : PE X e te) : PE X (.FormattedValue e (-1) (some (.JoinedStr [.Constant (.str "<8") j p] p')) pos) (tFmtS8 te) := by
  refine ⟨fun pins s σ H Q I h => ?_⟩
  refine wpAny_FormattedValue_spec (thn (he.run pins s σ H _ I h) fun v s1 hv => ?_)
  obtain ⟨x, H1, I1, r1, y, rfl, hy, q⟩ := hv
  obtain ⟨t, rfl⟩ := r1
  refine thn ((pe_joined1 (X := X) (pos := p') (pe_str (x := "<8") (j := j) (pos := p))).run pins s1 σ H1 (fun v H' => v = .str "<8" ∧ Q (.str (Txt.ljust y 8)) H') I1 ⟨rfl, q⟩) fun u s2 hu => ?_
  obtain ⟨z, H2, I2, r2, rfl, q2⟩ := hu
  obtain ⟨t2, rfl⟩ := r2
  refine ⟨_, _, rfl, ?_⟩
  refine KXf.field_str (spec' := sp8) (x' := y) (y := Txt.ljust y 8) (by decide +kernel) rfl (by decide +kernel) (by decide +kernel) (fun u => fmt_s8 y hy t u) fun t' k => ?_
  exact ⟨.str (Txt.ljust y 8), H2, I2.tok _, ⟨_, rfl⟩, q2⟩
theorem pe_fmtI2 {te : TE} {j : Nat} {p p' : Pos} (he : PE X e te) : PE X (.FormattedValue e (-1) (some (.JoinedStr [.Constant (.str ">2") j p] p')) pos) (tFmtI2 te) := by
  refine ⟨fun pins s σ H Q I h => ?_⟩
  refine wpAny_FormattedValue_spec (thn (he.run pins s σ H _ I h) fun v s1 hv => ?_)
  obtain ⟨x, H1, I1, r1, y, rfl, h0, h1, q⟩ := hv
  obtain ⟨t, rfl⟩ := r1
  refine thn ((pe_joined1 (X := X) (pos := p') (pe_str (x := ">2") (j := j) (pos := p))).run pins s1 σ H1 (fun v H' => v = .str ">2" ∧ Q (.str (Txt.rjust (toString y) 2)) H') I1 ⟨rfl, q⟩) fun u s2 hu => ?_
  obtain ⟨z, H2, I2, r2, rfl, q2⟩ := hu
  obtain ⟨t2, rfl⟩ := r2
  refine ⟨_, _, rfl, ?_⟩
  refine KXf.field_int (spec' := sp2) (y := Txt.rjust (toString y) 2) (by decide +kernel) (by decide +kernel) (by decide +kernel) (fun u => fmt_i2 y h0 h1 t u) fun t' k => ?_
  exact ⟨.str (Txt.rjust (toString y) 2), H2, I2.tok _, ⟨_, rfl⟩, q2⟩
theorem le_fmtS8 {j : Nat} {p p' : Pos} (h : PE X e (LE T Wx ma)) : PE X (.FormattedValue e (-1) (some (.JoinedStr [.Constant (.str "<8") j p] p')) pos) (LE T Wx (fmtE fmtS8 ma)) := (pe_fmtS8 h).imp fun σ H Q h => by
  obtain ⟨ρ, σw, g, hs, hg, he⟩ := h
  refine ⟨ρ, σw, g, hs, hg, EndR.bind he fun x g1 ρ1 H1 vx gr1 R1 rx he1 => ?_⟩
  cases x with
  | str y =>
    simp only [RWr, RW] at rx
    simp only [fmtS8] at he1
    by_cases hy : y.length ≤ 1000
    · rw [if_pos hy] at he1
      exact ⟨y, rx, hy, he1 ρ1 H1 _ .refl R1 (by simp only [RWr, RW])⟩
    · rw [if_neg hy] at he1
      exact he1.elim
  | _ => exact he1.elim
theorem le_fmtI2 {j : Nat} {p p' : Pos} (h : PE X e (LE T Wx ma)) : PE X (.FormattedValue e (-1) (some (.JoinedStr [.Constant (.str ">2") j p] p')) pos) (LE T Wx (fmtE fmtI2 ma)) := (pe_fmtI2 h).imp fun σ H Q h => by
  obtain ⟨ρ, σw, g, hs, hg, he⟩ := h
  refine ⟨ρ, σw, g, hs, hg, EndR.bind he fun x g1 ρ1 H1 vx gr1 R1 rx he1 => ?_⟩
  cases x with
  | int y =>
    simp only [RWr, RW] at rx
    simp only [fmtI2] at he1
    by_cases hy : 0 ≤ y ∧ y < 4
    · rw [if_pos hy] at he1
      exact ⟨y, rx, hy.1, hy.2, he1 ρ1 H1 _ .refl R1 (by simp only [RWr, RW])⟩
    · rw [if_neg hy] at he1
      exact he1.elim
  | _ => exact he1.elim
theorem le_fmt (h : PE X e (LE T Wx ma)) : PE X (.FormattedValue e (-1) none pos) (LE T Wx (fmtE fmtS ma)) := (pe_fmt h).imp fun σ H Q h => by
  obtain ⟨ρ, σw, g, hs, hg, he⟩ := h
  refine ⟨ρ, σw, g, hs, hg, EndR.bind he fun x g1 ρ1 H1 vx gr1 R1 rx he1 => ?_⟩
  cases x with
  | str y =>
    simp only [RWr, RW] at rx
    simp only [fmtS] at he1
    by_cases hy : fits y.length = true
    · rw [if_pos hy] at he1
      exact .inl ⟨y, rx, fits_le hy, he1 ρ1 H1 _ .refl R1 (by simp only [RWr, RW])⟩
    · rw [if_neg hy] at he1
      exact he1.elim
  | int y =>
    simp only [RWr, RW] at rx
    simp only [fmtS] at he1
    by_cases hy : y.natAbs < 2 ^ 64
    · rw [if_pos hy] at he1
      refine .inr ⟨y, rx, ?_, he1 ρ1 H1 _ .refl R1 (by simp only [RWr, RW])⟩
      by_cases h0 : y.natAbs = 0
      · rw [h0]; decide
      · have := (Nat.log2_lt h0).mpr hy
        omega
    · rw [if_neg hy] at he1
      exact he1.elim
  | _ => exact he1.elim
def jd : List ED → Str → Sg → G → Out Str
  | [], acc => fun _ g => .ok acc g
  | m :: ms, acc => fun σ g => (m σ g).bind fun w g => match w with
    | .str y => if fits (acc ++ y).length then jd ms (acc ++ y) σ g else .bad
    | _ => .bad
def eJoin (ms : List ED) : ED := fun σ g => (jd ms Str.empty σ g).bind fun y g => .ok (.str y) g
theorem lift_jd {σ : St} {R : Str → Hp → Prop} : ∀ (ms : List ED) (acc : Str) (ρ : List Addr) (H : Hp) (σw : Sg) (g : G), RS T ρ H σw σ → RG T ρ H g → EndR (fun _ _ (a b : Str) => a = b) T Wx σ ρ H R (jd ms acc σw g) → tJs (ms.map (LE T Wx)) acc σ H R
  | [], acc, ρ, H, σw, g, hs, hg, he => he ρ H _ .refl hg rfl
  | m :: ms, acc, ρ, H, σw, g, hs, hg, he => ⟨ρ, σw, g, hs, hg, EndR.bind he fun x g1 ρ1 H1 vx gr1 R1 rx he1 => by
    cases x with
    | str y =>
      simp only [RWr, RW] at rx
      dsimp only at he1
      by_cases hy : fits (acc ++ y).length = true
      · rw [if_pos hy] at he1
        exact ⟨y, rx, fits_le hy, lift_jd ms _ ρ1 H1 σw g1 (hs.mono gr1 _ _) R1 he1⟩
      · rw [if_neg hy] at he1
        exact he1.elim
    | _ => exact he1.elim⟩
inductive LJ (X : Cx) (T : Tab) (Wx : WX) : List Expr → List ED → Prop where
  | nil : LJ X T Wx [] []
  | cons {e : Expr} {m : ED} {es : List Expr} {ms : List ED} (h : PE X e (LE T Wx m)) (r : LJ X T Wx es ms) : LJ X T Wx (e :: es) (m :: ms)
theorem LJ.pj : ∀ {es : List Expr} {ms : List ED}, LJ X T Wx es ms → PJ X es (ms.map (LE T Wx))
  | _, _, .nil => .nil
  | _, _, .cons h r => .cons h r.pj
theorem le_join {v1 v2 : Expr} {ms : List ED} (h : LJ X T Wx (v1 :: v2 :: rest) ms) : PE X (.JoinedStr (v1 :: v2 :: rest) pos) (LE T Wx (eJoin ms)) := (pe_joined h.pj).imp fun σ H Q h => by
  obtain ⟨ρ, σw, g, hs, hg, he⟩ := h
  refine lift_jd ms Str.empty ρ H σw g hs hg (EndR.bind he fun x g1 ρ1 H1 vx gr1 R1 rx he1 => ?_)
  subst rx
  exact he1 ρ1 H1 _ .refl R1 (by simp only [RWr, RW])
end WL
end
section
set_option maxRecDepth 100000
namespace WL
namespace Q
open PySem PySem.Spec L2
open PyProof.Rows hiding St
def m_draw : SD := (sSeq (sIf (tVal (eBin eqF (eBin (subW []) (eVar 0) (eC (.int 1))) (eC (.int 0)))) (sSeq (sAsg (eC (.int 0)) (gNm 2)) (sSeq (sIf (tVal (eBin ltF (eBin (subW []) (eVar 0) (eC (.int 2))) (eFn lenF (aCons (eBin (subW []) (eVar 0) (eC (.int 0))) aNil)))) (sSeq (sAsg (eFn absF (aCons (eBin (subW []) (eBin (subW []) (eVar 0) (eC (.int 0))) (eBin (subW []) (eVar 0) (eC (.int 2)))) aNil)) (gNm 2)) (sAsg (eBin addF (eBin (subW []) (eVar 0) (eC (.int 2))) (eC (.int 1))) (gSubW (setW []) (eVar 0) (eC (.int 2))))) sNext) (sSeq (sIf (tVal (eBin geF (eVar 2) (eBin powF (eC (.int 10)) (eC (.int 18))))) (sAsg (eVar 2) (gSubW (setW []) (eVar 0) (eC (.int 1)))) sNext) (sAsg (eBin modF (eFn intF (aCons (eBin addF (eBin addF (eBin mulF (eBin (subW []) (eVar 0) (eC (.int 3))) (eC (.int 23))) (eVar 2)) (eC (.int 7))) aNil)) (eC (.int 10007))) (gSubW (setW []) (eVar 0) (eC (.int 3))))))) sNext) (sSeq (sIf (tVal (eBin gtF (eBin (subW []) (eVar 0) (eC (.int 1))) (eC (.int 0)))) (sSeq (sAsg (eBin modF (eFn intF (aCons (eBin (subW []) (eVar 0) (eC (.int 1))) aNil)) (eVar 1)) (gNm 3)) (sSeq (sAsg (eBin fdivF (eBin (subW []) (eVar 0) (eC (.int 1))) (eVar 1)) (gSubW (setW []) (eVar 0) (eC (.int 1)))) (sRet (eVar 3)))) sNext) (sRet (eBin modF (eFn intF (aCons (eBin fdivF (eBin (subW []) (eVar 0) (eC (.int 3))) (eC (.int 8))) aNil)) (eVar 1)))))
def f_draw : FN := fnW 4 m_draw
def F_draw : FN := arity 2 f_draw
def word_wt0 : TD := (tVal (eBin gtF (eVar 0) (eC (.int 0))))
def word_wb1 : SD := (sSeq (sAsg (eBin addF (eVar 2) (eBin (subW []) (eVar 1) (eBin modF (eFn intF (aCons (eVar 0) aNil)) (eC (.int 36))))) (gNm 2)) (sAsg (eBin fdivF (eVar 0) (eC (.int 36))) (gNm 0)))
def m_word : SD := (sSeq (sAsg (eC (.str "abcdefghijklmnopqrstuvwxyz0123456789")) (gNm 1)) (sSeq (sAsg (eBin (subW []) (eVar 1) (eBin modF (eFn intF (aCons (eVar 0) aNil)) (eC (.int 26)))) (gNm 2)) (sSeq (sAsg (eBin fdivF (eVar 0) (eC (.int 26))) (gNm 0)) (sSeq (sWhile word_wt0 word_wb1) (sRet (eVar 2))))))
def f_word : FN := fnW 3 m_word
def F_word : FN := arity 1 f_word
def is_name_le0 : ED := (eBin (inF []) (eVar 1) (eC (.str "abcdefghijklmnopqrstuvwxyz0123456789")))
def m_is_name : SD := (sRet (eAnd (eChain leF leF (eC (.int 1)) (eFn lenF (aCons (eVar 0) aNil)) (eC (.int 8))) (eAnd (eBin (inF []) (eBin (subW []) (eVar 0) (eC (.int 0))) (eC (.str "abcdefghijklmnopqrstuvwxyz"))) (eFn allF (aCons (eLc (iTxt (eVar 0)) (gNm 1) tYesW is_name_le0 [1]) aNil)))))
def f_is_name : FN := fnW 2 m_is_name
def F_is_name : FN := arity 1 f_is_name
def m_check_name : SD := (sIf (tNot (tTru (eFn F_is_name (aCons (eVar 0) aNil)))) (sRaise 1 [4] (aCons (eVar 0) aNil)) sNext)
def f_check_name : FN := fnW 1 m_check_name
def F_check_name : FN := arity 1 f_check_name
def m_Chart_init : SD := (sSeq (sIf (tNot (tVal (eChain leF leF (eC (.int 1)) (eVar 1) (eC (.int 4))))) (sRaise 2 [5] (aCons (eVar 1) aNil)) sNext) (sSeq (sDrop (eFn F_check_name (aCons (eVar 2) aNil))) (sSeq (gFld 0 (eVar 0) (eVar 1)) (sSeq (gFld 1 (eVar 0) (eVar 2)) (sSeq (gFld 2 (eVar 0) (eLst (aCons (eVar 2) aNil))) (gFld 3 (eVar 0) eDict0T))))))
def f_Chart_init : FN := fnW 3 m_Chart_init
def F_Chart_init : FN := arity 3 f_Chart_init
def m_Chart_setitem : SD := (sSeq (sAsg (eVar 1) (gTupW 2 (gsCons (gNm 3) (gsCons (gNm 4) gsNil)))) (sSeq (sAsg (eVar 2) (gTupW 2 (gsCons (gNm 5) (gsCons (gNm 6) gsNil)))) (sSeq (sDrop (eFn F_check_name (aCons (eVar 3) aNil))) (sSeq (sIf (tNot (tVal (eChain leF ltF (eC (.int 0)) (eVar 4) (eFld 0 (eVar 0))))) (sRaise 2 [5] (aCons (eVar 4) aNil)) sNext) (sSeq (sDrop (eFn F_check_name (aCons (eVar 5) aNil))) (sSeq (sAsg (eFn listF (aCons (eFld 2 (eVar 0)) aNil)) (gNm 7)) (sSeq (sIf (tVal (eBin (notinF []) (eVar 3) (eVar 7))) (sDrop (eBM "list" appendM (eVar 7) (aCons (eVar 3) aNil))) sNext) (sSeq (sIf (tVal (eBin notNF (eVar 6) (eC .non))) (sSeq (sDrop (eFn F_check_name (aCons (eVar 6) aNil))) (sIf (tVal (eBin (notinF []) (eVar 6) (eVar 7))) (sDrop (eBM "list" appendM (eVar 7) (aCons (eVar 6) aNil))) sNext)) sNext) (sSeq (sIf (tVal (eBin gtF (eFn lenF (aCons (eVar 7) aNil)) (eCon [(0, .int 16)] (eVar 0)))) (sRaise 5 [7] (aCons (eCon [(0, .int 16)] (eVar 0)) aNil)) sNext) (sSeq (gFld 2 (eVar 0) (eVar 7)) (sAsg (eTup (aCons (eVar 5) (aCons (eVar 6) aNil))) (gSubW (setW []) (eFld 3 (eVar 0)) (eTup (aCons (eVar 3) (aCons (eVar 4) aNil)))))))))))))))
def f_Chart_setitem : FN := fnW 8 m_Chart_setitem
def F_Chart_setitem : FN := arity 3 f_Chart_setitem
def m_Chart_getitem : SD := (sSeq (sAsg (eVar 1) (gTupW 2 (gsCons (gNm 2) (gsCons (gNm 3) gsNil)))) (sSeq (sIf (tVal (eBin (notinF []) (eVar 2) (eFld 2 (eVar 0)))) (sRaise 3 [6] (aCons (eVar 2) aNil)) sNext) (sSeq (sIf (tNot (tVal (eChain leF ltF (eC (.int 0)) (eVar 3) (eFld 0 (eVar 0))))) (sRaise 2 [5] (aCons (eVar 3) aNil)) sNext) (sSeq (sIf (tVal (eBin (notinF []) (eTup (aCons (eVar 2) (aCons (eVar 3) aNil))) (eFld 3 (eVar 0)))) (sRaise 4 [6, 5] (aCons (eVar 2) (aCons (eVar 3) aNil))) sNext) (sRet (eBin (subW []) (eFld 3 (eVar 0)) (eTup (aCons (eVar 2) (aCons (eVar 3) aNil)))))))))
def f_Chart_getitem : FN := fnW 4 m_Chart_getitem
def F_Chart_getitem : FN := arity 2 f_Chart_getitem
def m_Chart_contains : SD := (sRet (eBin (inF []) (eVar 1) (eFld 2 (eVar 0))))
def f_Chart_contains : FN := fnW 2 m_Chart_contains
def F_Chart_contains : FN := arity 2 f_Chart_contains
def m_Chart_step : SD := (sRet (eBin (subW [(0, F_Chart_getitem)]) (eVar 0) (eTup (aCons (eVar 1) (aCons (eVar 2) aNil)))))
def f_Chart_step : FN := fnW 3 m_Chart_step
def F_Chart_step : FN := arity 3 f_Chart_step
def Chart_edges_le0 : ED := (eTup (aCons (eVar 1) (aCons (eVar 2) (aStar (eBin (subW []) (eFld 3 (eVar 0)) (eTup (aCons (eVar 1) (aCons (eVar 2) aNil)))) aNil))))
def m_Chart_edges : SD := (sRet (eLc2 (iSeq (eFld 2 (eVar 0))) (gNm 1) tYesW (iRange1 (aCons (eFld 0 (eVar 0)) aNil)) (gNm 2) (tVal (eBin (inF []) (eTup (aCons (eVar 1) (aCons (eVar 2) aNil))) (eFld 3 (eVar 0)))) Chart_edges_le0 [1, 2] [2]))
def f_Chart_edges : FN := fnW 3 m_Chart_edges
def F_Chart_edges : FN := arity 1 f_Chart_edges
def Chart_missing_le0 : ED := (eTup (aCons (eVar 1) (aCons (eVar 2) aNil)))
def m_Chart_missing : SD := (sRet (eLc2 (iSeq (eFld 2 (eVar 0))) (gNm 1) tYesW (iRange1 (aCons (eFld 0 (eVar 0)) aNil)) (gNm 2) (tVal (eBin (notinF []) (eTup (aCons (eVar 1) (aCons (eVar 2) aNil))) (eFld 3 (eVar 0)))) Chart_missing_le0 [1, 2] [2]))
def f_Chart_missing : FN := fnW 3 m_Chart_missing
def F_Chart_missing : FN := arity 1 f_Chart_missing
def m_Chart_len : SD := (sRet (eFn lenF (aCons (eFld 2 (eVar 0)) aNil)))
def f_Chart_len : FN := fnW 1 m_Chart_len
def F_Chart_len : FN := arity 1 f_Chart_len
def m_Chart_start : SD := (sRet (eFld 1 (eVar 0)))
def f_Chart_start : FN := fnW 1 m_Chart_start
def F_Chart_start : FN := arity 1 f_Chart_start
def m_Chart_begin : SD := (sRet (eFld 1 (eVar 0)))
def f_Chart_begin : FN := fnW 1 m_Chart_begin
def F_Chart_begin : FN := arity 1 f_Chart_begin
end Q
end WL
end
section
set_option maxRecDepth 100000
namespace WL
namespace Q
open PySem PySem.Spec L2
open PyProof.Rows hiding St
set_option autoImplicit true
theorem bind_ok {α β : Type} {a : α} {g : G} {k : α → G → Out β} : (Out.ok a g).bind k = k a g := (rfl)
theorem bind_ex {α β : Type} {c fs} {g : G} {k : α → G → Out β} : (Out.ex c fs g : Out α).bind k = .ex c fs g := (rfl)
theorem fl_ok {α : Type} {a : α} {g : G} {σ : Sg} {k : α → G → Fl} : (Out.ok a g).fl σ k = k a g := (rfl)
theorem fl_ex {α : Type} {c fs} {g : G} {σ : Sg} {k : α → G → Fl} : (Out.ex c fs g : Out α).fl σ k = .ex c fs σ g := (rfl)
theorem bind_congr {α β : Type} {r r' : Out α} {k : α → G → Out β} (h : r = r') : r.bind k = r'.bind k := by rw [h]
theorem fl_congr {α : Type} {r r' : Out α} {σ : Sg} {k : α → G → Fl} (h : r = r') : r.fl σ k = r'.fl σ k := by rw [h]
def _root_.WL.Fl.sq (r : Fl) (k : SD) : Fl := match r with
  | .nx σ g => k σ g
  | r => r
theorem sq_congr {r r' : Fl} {k : SD} (h : r = r') : r.sq k = r'.sq k := by rw [h]
theorem sq_nx {σ g} {k : SD} : (Fl.nx σ g).sq k = k σ g := (rfl)
theorem sq_rt {w g} {k : SD} : (Fl.rt w g).sq k = .rt w g := (rfl)
theorem sq_ex {c fs σ g} {k : SD} : (Fl.ex c fs σ g).sq k = .ex c fs σ g := (rfl)
theorem sq_bk {σ g} {k : SD} : (Fl.bk σ g).sq k = .bk σ g := (rfl)
theorem sq_ct {σ g} {k : SD} : (Fl.ct σ g).sq k = .ct σ g := (rfl)
variable {a b c : ED} {t u : TD} {s s' : SD} {σ : Sg} {g : G} {as : AD} {w x : W} {gd : GD} {f f' : F2}
/-- a branch -/
def br {α : Type} (b : Bool) (x y : α) : α := if b then x else y
theorem br_congr {α : Type} {b b' : Bool} {x y : α} (h : b = b') : br b x y = br b' x y := by rw [h]
theorem br_t {α : Type} {x y : α} : br true x y = x := (rfl)
theorem br_f {α : Type} {x y : α} : br false x y = y := (rfl)
theorem e_var0 : eVar 0 (some w :: σ) g = .ok w g := (rfl)
theorem e_varS {i : Nat} {o : Option W} : eVar (i + 1) (o :: σ) g = eVar i σ g := (rfl)
theorem e_c : eC w σ g = .ok w g := (rfl)
theorem e_bin : eBin f a b σ g = (a σ g).bind fun x g => (b σ g).bind fun y g => f x y g := (rfl)
theorem a_nil : aNil σ g = .ok [] g := (rfl)
theorem a_cons : aCons a as σ g = (a σ g).bind fun x g => (as σ g).bind fun xs g => .ok (x :: xs) g := (rfl)
theorem e_fn {F : FN} : eFn F as σ g = (as σ g).bind fun xs g => F xs g := (rfl)
theorem e_tup : eTup as σ g = (as σ g).bind fun xs g => br (fits xs.length) (.ok (.tup xs) g) .bad := (rfl)
theorem e_lst : eLst as σ g = (as σ g).bind fun xs g => br (fits xs.length) (.ok (.ref g.length) (g ++ [.lst xs])) .bad := (rfl)
def asB (w : W) (g : G) : Out Bool := match w with
  | .bl b => .ok b g
  | _ => .bad
theorem asB_bl {b : Bool} : asB (.bl b) g = .ok b g := (rfl)
theorem t_val : tVal a σ g = (a σ g).bind asB := by unfold tVal; congr
def asT (w : W) (g : G) : Out Bool := match truW g w with
  | some b => .ok b g
  | none => .bad
theorem asT_bl {b : Bool} : asT (.bl b) g = .ok b g := (rfl)
theorem t_tru : tTru a σ g = (a σ g).bind asT := by unfold tTru; congr
theorem t_not : tNot t σ g = (t σ g).bind fun b g => .ok (!b) g := (rfl)
theorem t_and : tAnd t u σ g = (t σ g).bind fun x g => br x (u σ g) (.ok false g) := (rfl)
theorem t_or : tOr t u σ g = (t σ g).bind fun x g => br x (.ok true g) (u σ g) := (rfl)
theorem e_if : eIf t a b σ g = (t σ g).bind fun x g => br x (a σ g) (b σ g) := (rfl)
theorem e_and : eAnd a b σ g = (a σ g).bind fun x g => (asB x g).bind fun v g => br v (b σ g) (.ok (.bl false) g) := by
  unfold eAnd; congr; funext x g; cases x <;> try rfl
  rename_i v; cases v <;> rfl
theorem e_or : eOr a b σ g = (a σ g).bind fun x g => (asB x g).bind fun v g => br v (.ok (.bl true) g) (b σ g) := by
  unfold eOr; congr; funext x g; cases x <;> try rfl
  rename_i v; cases v <;> rfl
theorem e_not : eNot a σ g = (a σ g).bind fun x g => (asB x g).bind fun v g => .ok (.bl (!v)) g := by
  unfold eNot; congr; funext x g; cases x <;> rfl
theorem e_chain : eChain f f' a b c σ g = (a σ g).bind fun x g => (b σ g).bind fun y g => (f x y g).bind fun z g => (asB z g).bind fun v g => br v ((c σ g).bind fun w g => f' y w g) (.ok (.bl false) g) := by
  unfold eChain; congr; funext x g; congr; funext y g; congr; funext z g; cases z <;> try rfl
  rename_i v; cases v <;> rfl
def fldOf (i : Nat) (o : Option (Nat × Nat × List (Nat × W))) (g : G) : Out W := match o with
  | some (_, _, fs) => match getW i fs with
    | some w => .ok w g
    | none => .bad
  | none => .bad
theorem e_fld {i : Nat} : eFld i a σ g = (a σ g).bind fun x g => fldOf i (insAt g x) g := (rfl)
theorem e_meth {d : Disp} : eMeth d a as σ g = (a σ g).bind fun x g => match insAt g x with
  | some (_, c, _) => match getD c d with
    | some F => (as σ g).bind fun ws g => F (x :: ws) g
    | none => .bad
  | none => .bad := rfl
theorem e_con {cs} : eCon cs a σ g = (a σ g).bind fun x g => match insAt g x with
  | some (_, c, _) => match getW c cs with
    | some w => .ok w g
    | none => .bad
  | none => .bad := rfl
theorem e_bm {ty : String} {fm : FM} : eBM ty fm a as σ g = (a σ g).bind fun x g => br (tyW ty g x) ((as σ g).bind fun ws g => fm x ws g) .bad := (rfl)
theorem e_star : aStar a as σ g = (a σ g).bind fun x g => match seqAt g x with
  | some xs => (as σ g).bind fun ys g => .ok (xs ++ ys) g
  | none => .bad := rfl
theorem s_seq : sSeq s s' σ g = (s σ g).sq s' := by unfold sSeq Fl.sq; cases s σ g <;> rfl
theorem s_drop : sDrop a σ g = (a σ g).fl σ fun _ g => .nx σ g := (rfl)
theorem s_ret : sRet a σ g = (a σ g).fl σ fun w g => .rt w g := (rfl)
theorem s_if : sIf t s s' σ g = (t σ g).fl σ fun x g => br x (s σ g) (s' σ g) := (rfl)
theorem s_next : sNext σ g = .nx σ g := (rfl)
theorem s_retN : sRetN σ g = .rt .non g := (rfl)
theorem s_asg : sAsg a gd σ g = (a σ g).fl σ fun w g => (gd w σ g).fl σ fun σ g => .nx σ g := (rfl)
theorem g_nm {i : Nat} : gNm i w σ g = .ok (σ.set i (some w)) g := (rfl)
theorem g_sub {fs : W → W → W → G → Out Unit} : gSubW fs a b w σ g = (a σ g).bind fun x g => (b σ g).bind fun y g => (fs x y w g).bind fun _ g => .ok σ g := (rfl)
theorem s_raise {c : Nat} {fids : List Nat} : sRaise c fids as σ g = (as σ g).fl σ fun ws g => br (decide (ws.length = fids.length)) (.ex c (fids.zip ws).reverse σ g) .bad := by
  unfold sRaise br; congr; funext ws g; simp
theorem fn_w {n : Nat} {ws : List W} : fnW n s ws g = (s (startW n ws) g).out := (rfl)
theorem out_rt : (Fl.rt w g).out = .ok w g := (rfl)
theorem out_nx : (Fl.nx σ g).out = .ok .non g := (rfl)
theorem out_ex {c fs} : (Fl.ex c fs σ g).out = .ex c fs g := (rfl)
theorem arity_ok {n : Nat} {F : FN} {ws : List W} (h : ws.length = n) : arity n F ws g = F ws g := if_pos h
theorem set0 {o p : Option W} : List.set (o :: σ) 0 p = p :: σ := (rfl)
theorem setS {i : Nat} {o p : Option W} : List.set (o :: σ) (i + 1) p = o :: List.set σ i p := (rfl)
theorem lt_ii {i j : Int} : ltF (.int i) (.int j) g = .ok (.bl (decide (i < j))) g := (rfl)
theorem le_ii {i j : Int} : leF (.int i) (.int j) g = .ok (.bl (decide (i ≤ j))) g := (rfl)
theorem gt_ii {i j : Int} : gtF (.int i) (.int j) g = .ok (.bl (decide (j < i))) g := (rfl)
theorem ge_ii {i j : Int} : geF (.int i) (.int j) g = .ok (.bl (decide (j ≤ i))) g := (rfl)
theorem sub_ii {i j : Int} : subF (.int i) (.int j) g = .ok (.int (i - j)) g := (rfl)
theorem add_ii {i j : Int} : addF (.int i) (.int j) g = .ok (.int (i + j)) g := (rfl)
theorem mod_ii {i j : Int} (h : 0 < j) : modF (.int i) (.int j) g = .ok (.int (i % j)) g := by simp [modF, h]
theorem div_ii {i j : Int} (h : 0 < j) (h2 : j < 2 ^ 100) : fdivF (.int i) (.int j) g = .ok (.int (i / j)) g := by simp only [fdivF]; rw [if_pos ⟨h, h2⟩]
theorem int_i {i : Int} : intF [.int i] g = .ok (.int i) g := (rfl)
theorem eq_ii {i j : Int} : eqF (.int i) (.int j) g = .ok (.bl (decide (i = j))) g := by
  simp [eqF, toD, toDg, SeqAt.shaped, PyData.canLay0, PyData.depth, PyData.eqv]
  by_cases h : i = j <;> simp [h]
theorem ne_ii {i j : Int} : neF (.int i) (.int j) g = .ok (.bl (!decide (i = j))) g := by
  simp [neF, toD, toDg, SeqAt.shaped, PyData.canLay0, PyData.depth, PyData.eqv]
  by_cases h : i = j <;> simp [h]
def sub1 (d : Disp) (l : Nat) (y : W) (g : G) (o : Option GO) : Out W := match o with
  | some (.lst ws) => ixSeq ws y g
  | some (.dT kvs) => match keysW y with
    | some k => match getK k kvs with
      | some w => .ok w g
      | none => .bad
    | none => .bad
  | some (.ins c fs) => match getD c d with
    | some F => F [.ref l, y] g
    | none => .bad
  | _ => subW d (.ref l) y g
theorem sub_ref {d : Disp} {l : Nat} {y : W} : subW d (.ref l) y g = sub1 d l y g (g[l]?) := by
  cases h : g[l]? with
  | none => rfl
  | some o =>
    cases o with
    | lst ws => simp [subW, listAt, h, sub1]
    | dK kvs => rfl
    | dT kvs =>
      simp only [subW, listAt, h, sub1, dictGet]
      cases hk : keysW y with
      | none => simp [ownF, insAt, h]
      | some k => cases hg : getK k kvs <;> simp [hg]
    | ins c fs =>
      simp only [subW, listAt, h, sub1, dictGet, ownF, insAt]
      all_goals (cases getD c d <;> rfl)
theorem sub1_lst {d : Disp} {l : Nat} {y : W} {ws : List W} : sub1 d l y g (some (.lst ws)) = ixSeq ws y g := (rfl)
theorem sub1_ins {d : Disp} {l : Nat} {y : W} {c fs} : sub1 d l y g (some (.ins c fs)) = match getD c d with
    | some F => F [.ref l, y] g
    | none => .bad := rfl
theorem ixSeq0 {ws : List W} : ixSeq (w :: ws) (.int 0) g = .ok w g := by
  have h : (0 : Int) < ((w :: ws).length : Int) := by simp
  simp only [ixSeq, atI, ixN]
  rw [if_pos (by decide), if_pos h]
  rfl
theorem ixSeq_get {ws : List W} {i : Nat} (h : ws[i]? = some w) : ixSeq ws (.int i) g = .ok w g := by
  have hi := (List.getElem?_eq_some_iff.mp h).1
  simp only [ixSeq, atI, ixN]
  rw [if_pos (by omega), if_pos (by omega)]
  simp [h]
theorem ixSeq1 {a b : W} {r : List W} : ixSeq (a :: b :: r) (.int 1) g = .ok b g := ixSeq_get (i := 1) rfl
theorem ixSeq2 {a b c : W} {r : List W} : ixSeq (a :: b :: c :: r) (.int 2) g = .ok c g := ixSeq_get (i := 2) rfl
theorem ixSeq3 {a b c d : W} {r : List W} : ixSeq (a :: b :: c :: d :: r) (.int 3) g = .ok d g := ixSeq_get (i := 3) rfl
def set1 (d : Disp) (l : Nat) (y w : W) (g : G) (o : Option GO) : Out Unit := match o with
  | some (.lst ws) => match y with
    | .int i => match ixN ws.length i with
      | some j => .ok () (g.set l (.lst (ws.set j w)))
      | none => .bad
    | _ => .bad
  | some (.dT kvs) => match keysW y with
    | some k => if fits kvs.length then .ok () (g.set l (.dT (putKW k w kvs))) else .bad
    | none => .bad
  | some (.ins c fs) => match getD c d with
    | some F => match F [.ref l, y, w] g with
      | .ok _ g => .ok () g
      | .ex c fs g => .ex c fs g
      | .bad => .bad
    | none => .bad
  | _ => setW d (.ref l) y w g
theorem set_ref {d : Disp} {l : Nat} {y : W} : setW d (.ref l) y w g = set1 d l y w g (g[l]?) := by
  cases h : g[l]? with
  | none => rfl
  | some o =>
    cases o with
    | lst ws => simp only [setW, h]; rfl
    | dK kvs => rfl
    | dT kvs => simp only [setW, h]; rfl
    | ins c fs =>
      simp only [setW, h, set1, ownF, insAt]
      all_goals (cases getD c d <;> rfl)
theorem set1_lst {d : Disp} {l i j : Nat} {ws : List W} (h : i < ws.length) : set1 d l (.int i) w g (some (.lst ws)) = .ok () (g.set l (.lst (ws.set i w))) := by
  have e : ixN ws.length (i : Int) = some i := by
    simp only [ixN]
    rw [if_pos (by omega), if_pos (by omega)]
    simp
  simp only [set1, e]
theorem set1_1 {d : Disp} {l : Nat} {a b : W} {r : List W} : set1 d l (.int 1) w g (some (.lst (a :: b :: r))) = .ok () (g.set l (.lst (a :: w :: r))) := set1_lst (i := 1) (j := 0) (by simp)
theorem set1_2 {d : Disp} {l : Nat} {a b c : W} {r : List W} : set1 d l (.int 2) w g (some (.lst (a :: b :: c :: r))) = .ok () (g.set l (.lst (a :: b :: w :: r))) := set1_lst (i := 2) (j := 0) (by simp)
theorem set1_3 {d : Disp} {l : Nat} {a b c e : W} {r : List W} : set1 d l (.int 3) w g (some (.lst (a :: b :: c :: e :: r))) = .ok () (g.set l (.lst (a :: b :: c :: w :: r))) := set1_lst (i := 3) (j := 0) (by simp)
theorem ixSeqS {ws : List W} {i : Nat} (hi : i < ws.length) : ixSeq ws (.int i) g = .ok ws[i] g := by
  simp only [ixSeq, atI, ixN]
  rw [if_pos (by omega), if_pos (by omega)]
  simp [hi]
end Q
end WL
end
section
set_option maxRecDepth 100000
set_option maxHeartbeats 1000000
namespace WL
namespace Q
open PySem PySem.Spec L2
open PyProof.Rows hiding St
set_option autoImplicit true
theorem fits_of {n : Nat} (h : n ≤ 1000000) : fits n = true := decide_eq_true h
theorem at_set {g : G} {p : Nat} {o u : GO} (h : g[p]? = some o) : (g.set p u)[p]? = some u := List.getElem?_set_self (List.getElem?_eq_some_iff.mp h).1
theorem at_set_ne {g : G} {p q : Nat} {u : GO} (h : p ≠ q) : (g.set p u)[q]? = g[q]? := List.getElem?_set_ne h
theorem len_lst {g : G} {l : Nat} {ws : List W} (h : g[l]? = some (.lst ws)) : lenF [.ref l] g = .ok (.int ws.length) g := by
  simp [lenF, seqAt, listAt, h]
theorem pow_ii {g : G} {i j : Int} (h : 0 ≤ j ∧ j ≤ 1000 ∧ i.natAbs < 2 ^ 64) : powF (.int i) (.int j) g = .ok (.int (i ^ j.toNat)) g := by simp only [powF]; rw [if_pos h]
theorem mul_ii {g : G} {i j : Int} (h : (-(2 ^ 64) < i ∧ i < 2 ^ 64) ∨ (-(2 ^ 64) < j ∧ j < 2 ^ 64)) : mulF (.int i) (.int j) g = .ok (.int (i * j)) g := by simp only [mulF]; rw [if_pos h]
theorem abs_i {g : G} {i : Int} : absF [.int i] g = .ok (.int (if i < 0 then -i else i)) g := (rfl)
theorem p1018 {g : G} : powF (.int 10) (.int 18) g = .ok (.int 1000000000000000000) g := by rw [pow_ii (by decide)]; rfl
theorem m23 {g : G} {i : Int} : mulF (.int i) (.int 23) g = .ok (.int (i * 23)) g := mul_ii (.inr (by decide))
theorem md {g : G} {i : Int} : modF (.int i) (.int 10007) g = .ok (.int (i % 10007)) g := mod_ii (by decide)
theorem d8 {g : G} {i : Int} : fdivF (.int i) (.int 8) g = .ok (.int (i / 8)) g := div_ii (by decide) (by decide)
theorem draw_at {g : G} {p q : Nat} {ns : List Int} {a b c L : Int} (ne : p ≠ q) (hq : g[q]? = some (.lst (ns.map .int))) (hp : g[p]? = some (.lst [.ref q, .int a, .int b, .int c])) (ha : 0 ≤ a) (hb : 0 ≤ b) (hb2 : b ≤ ns.length) (hc : 0 ≤ c) (hL : 0 < L) (hL2 : L < 2 ^ 100) :
    ∃ d a' b' c' : Int, f_draw [.ref p, .int L] g = .ok (.int d) (g.set p (.lst [.ref q, .int a', .int b', .int c'])) ∧ 0 ≤ d ∧ d < L ∧ 0 ≤ a' ∧ 0 ≤ b' ∧ b' ≤ ns.length ∧ 0 ≤ c' := by
  have ep : ∀ u, (g.set p u)[p]? = some u := fun u => at_set hp
  have eq : ∀ u, (g.set p u)[q]? = some (.lst (ns.map .int)) := fun u => by rw [at_set_ne ne]; exact hq
  have gp : g = g.set p (.lst [.ref q, .int a, .int b, .int c]) := by
    obtain ⟨h1, h2⟩ := List.getElem?_eq_some_iff.mp hp
    rw [← h2]; simp
  have n00 : ¬ (0 : Int) < 0 := by decide
  by_cases h1 : a = 0
  · subst h1
    by_cases h2 : b < ns.length
    · obtain ⟨bn, rfl⟩ : ∃ bn : Nat, b = bn := ⟨b.toNat, by omega⟩
      have hbn : bn < ns.length := by omega
      have ix : ixSeq (ns.map .int) (.int bn) g = .ok (.int ns[bn]) g := ixSeq_get (by simp [hbn])
      generalize hcell : (if ns[bn] < 0 then -ns[bn] else ns[bn]) = cell
      have hcell0 : 0 ≤ cell := by rw [← hcell]; split <;> omega
      by_cases h4 : (1000000000000000000 : Int) ≤ cell
      · have h5 : (0 : Int) < cell := by omega
        refine ⟨cell % L, cell / L, bn + 1, (c * 23 + cell + 7) % 10007, ?_, Int.emod_nonneg _ (by omega), Int.emod_lt_of_pos _ hL, Int.ediv_nonneg hcell0 (by omega), by omega, by omega, Int.emod_nonneg _ (by decide)⟩
        unfold f_draw m_draw
        simp only [bind_ok, bind_ex, fl_ok, fl_ex, sq_nx, sq_rt, sq_ex, sq_bk, sq_ct, br_t, br_f, e_var0, e_varS, e_c, e_bin, a_nil, a_cons, e_fn, e_tup, e_lst, asB_bl, t_val, asT_bl, t_tru, t_not, t_and, t_or, e_if, e_and, e_or, e_not, e_chain, e_fld, e_meth, e_con, e_bm, e_star, s_seq, s_drop, s_ret, s_if, s_next, s_retN, s_asg, g_nm, g_sub, s_raise, fn_w, out_rt, out_nx, out_ex, set0, setS, lt_ii, le_ii, gt_ii, ge_ii, sub_ii, add_ii, int_i, eq_ii, ne_ii, sub_ref, sub1_lst, ixSeq0, ixSeq1, ixSeq2, ixSeq3, set_ref, set1_1, set1_2, set1_3, startW, List.map_cons, List.map_nil, List.length_cons, List.length_nil, List.replicate_succ, List.replicate_zero, List.cons_append, List.nil_append, Nat.reduceAdd, Nat.reduceSub, Nat.add_sub_cancel, decide_true, decide_false, Bool.not_true, Bool.not_false, hp, hq, len_lst hq, List.length_map, h2, ix, abs_i, hcell, ep, eq, List.set_set, p1018, m23, md, h4, h5, mod_ii hL, div_ii hL hL2]
      · refine ⟨((c * 23 + cell + 7) % 10007) / 8 % L, 0, bn + 1, (c * 23 + cell + 7) % 10007, ?_, Int.emod_nonneg _ (by omega), Int.emod_lt_of_pos _ hL, by omega, by omega, by omega, Int.emod_nonneg _ (by decide)⟩
        unfold f_draw m_draw
        simp only [bind_ok, bind_ex, fl_ok, fl_ex, sq_nx, sq_rt, sq_ex, sq_bk, sq_ct, br_t, br_f, e_var0, e_varS, e_c, e_bin, a_nil, a_cons, e_fn, e_tup, e_lst, asB_bl, t_val, asT_bl, t_tru, t_not, t_and, t_or, e_if, e_and, e_or, e_not, e_chain, e_fld, e_meth, e_con, e_bm, e_star, s_seq, s_drop, s_ret, s_if, s_next, s_retN, s_asg, g_nm, g_sub, s_raise, fn_w, out_rt, out_nx, out_ex, set0, setS, lt_ii, le_ii, gt_ii, ge_ii, sub_ii, add_ii, int_i, eq_ii, ne_ii, sub_ref, sub1_lst, ixSeq0, ixSeq1, ixSeq2, ixSeq3, set_ref, set1_1, set1_2, set1_3, startW, List.map_cons, List.map_nil, List.length_cons, List.length_nil, List.replicate_succ, List.replicate_zero, List.cons_append, List.nil_append, Nat.reduceAdd, Nat.reduceSub, Nat.add_sub_cancel, decide_true, decide_false, Bool.not_true, Bool.not_false, hp, hq, len_lst hq, List.length_map, h2, ix, abs_i, hcell, ep, eq, List.set_set, p1018, m23, md, h4, n00, mod_ii hL, div_ii hL hL2, d8]
    · refine ⟨((c * 23 + 0 + 7) % 10007) / 8 % L, 0, b, (c * 23 + 0 + 7) % 10007, ?_, Int.emod_nonneg _ (by omega), Int.emod_lt_of_pos _ hL, by omega, by omega, by omega, Int.emod_nonneg _ (by decide)⟩
      have h4 : ¬ (1000000000000000000 : Int) ≤ 0 := by decide
      unfold f_draw m_draw
      simp only [bind_ok, bind_ex, fl_ok, fl_ex, sq_nx, sq_rt, sq_ex, sq_bk, sq_ct, br_t, br_f, e_var0, e_varS, e_c, e_bin, a_nil, a_cons, e_fn, e_tup, e_lst, asB_bl, t_val, asT_bl, t_tru, t_not, t_and, t_or, e_if, e_and, e_or, e_not, e_chain, e_fld, e_meth, e_con, e_bm, e_star, s_seq, s_drop, s_ret, s_if, s_next, s_retN, s_asg, g_nm, g_sub, s_raise, fn_w, out_rt, out_nx, out_ex, set0, setS, lt_ii, le_ii, gt_ii, ge_ii, sub_ii, add_ii, int_i, eq_ii, ne_ii, sub_ref, sub1_lst, ixSeq0, ixSeq1, ixSeq2, ixSeq3, set_ref, set1_1, set1_2, set1_3, startW, List.map_cons, List.map_nil, List.length_cons, List.length_nil, List.replicate_succ, List.replicate_zero, List.cons_append, List.nil_append, Nat.reduceAdd, Nat.reduceSub, Nat.add_sub_cancel, decide_true, decide_false, Bool.not_true, Bool.not_false, hp, hq, len_lst hq, List.length_map, h2, ep, eq, List.set_set, p1018, m23, md, h4, n00, mod_ii hL, div_ii hL hL2, d8]
  · have h3 : 0 < a := by omega
    refine ⟨a % L, a / L, b, c, ?_, Int.emod_nonneg _ (by omega), Int.emod_lt_of_pos _ hL, Int.ediv_nonneg ha (by omega), hb, hb2, hc⟩
    unfold f_draw m_draw
    simp only [bind_ok, bind_ex, fl_ok, fl_ex, sq_nx, sq_rt, sq_ex, sq_bk, sq_ct, br_t, br_f, e_var0, e_varS, e_c, e_bin, a_nil, a_cons, e_fn, e_tup, e_lst, asB_bl, t_val, asT_bl, t_tru, t_not, t_and, t_or, e_if, e_and, e_or, e_not, e_chain, e_fld, e_meth, e_con, e_bm, e_star, s_seq, s_drop, s_ret, s_if, s_next, s_retN, s_asg, g_nm, g_sub, s_raise, fn_w, out_rt, out_nx, out_ex, set0, setS, lt_ii, le_ii, gt_ii, ge_ii, sub_ii, add_ii, int_i, eq_ii, ne_ii, sub_ref, sub1_lst, ixSeq0, ixSeq1, ixSeq2, ixSeq3, set_ref, set1_1, set1_2, set1_3, startW, List.map_cons, List.map_nil, List.length_cons, List.length_nil, List.replicate_succ, List.replicate_zero, List.cons_append, List.nil_append, Nat.reduceAdd, Nat.reduceSub, Nat.add_sub_cancel, decide_true, decide_false, Bool.not_true, Bool.not_false, hp, hq, h1, h3, mod_ii hL, div_ii hL hL2]
end Q
end WL
end
section
set_option maxRecDepth 100000
set_option maxHeartbeats 1000000
namespace WL
namespace Q
open PySem PySem.Spec L2
open PyProof.Rows hiding St
set_option autoImplicit true
abbrev letters : Str := "abcdefghijklmnopqrstuvwxyz0123456789"
def sign (d : Nat) : Nat := if d < 26 then 97 + d else 48 + (d - 26)
/-- the signs behind the first one -/
def wtail (n : Nat) : List Nat := if h : n = 0 then [] else sign (n % 36) :: wtail (n / 36)
termination_by n
decreasing_by omega
theorem wtail0 : wtail 0 = [] := by unfold wtail; rfl
theorem wtailS {n : Nat} (h : 0 < n) : wtail n = sign (n % 36) :: wtail (n / 36) := by
  rw [wtail]
  rw [dif_neg (by omega)]
def word (n : Nat) : Str := ⟨#[sign (n % 26)] ++ (wtail (n / 26)).toArray⟩
theorem at_letters : ∀ d : Fin 36, atI letters.cps.toList ((d.val : Nat) : Int) = some (sign d.val) := by decide +kernel
theorem len_letters : fits letters.length = true := by decide +kernel
theorem sub_letters {g : G} {d : Nat} (h : d < 36) : subW [] (.str letters) (.int d) g = .ok (.str ⟨#[sign d]⟩) g := by
  have e := at_letters ⟨d, h⟩
  simp only [subW, len_letters, if_true]
  rw [show atI letters.cps.toList ((d : Nat) : Int) = some (sign d) from e]
theorem add_ss {g : G} {a b : Str} (h1 : a.length ≤ 1000000) (h2 : b.length ≤ 1000000) : addF (.str a) (.str b) g = .ok (.str (a ++ b)) g := by
  simp [addF, fits_of h1, fits_of h2]
theorem sdiv {n k : Nat} : ((n : Int) / (k : Int)) = ((n / k : Nat) : Int) := by omega
theorem wloop {g : G} : ∀ (k n fuel : Nat) (s : Str), n < 36 ^ k → k < fuel → s.length + k ≤ 1000 → whileGo word_wt0 word_wb1 fuel [some (.int (n : Int)), some (.str letters), some (.str s)] g = .nx [some (.int 0), some (.str letters), some (.str ⟨s.cps ++ (wtail n).toArray⟩)] g := by
  intro k
  induction k with
  | zero =>
    intro n fuel s hn hf hs
    have : n = 0 := by simpa using hn
    subst this
    obtain ⟨f, rfl⟩ : ∃ f, fuel = f + 1 := ⟨fuel - 1, by omega⟩
    unfold whileGo word_wt0
    simp only [Int.ofNat_zero, Int.natCast_zero, show ((0 : Nat) : Int) = 0 from rfl]
    simp only [bind_ok, bind_ex, fl_ok, fl_ex, sq_nx, sq_rt, sq_ex, sq_bk, sq_ct, br_t, br_f, e_var0, e_varS, e_c, e_bin, a_nil, a_cons, e_fn, e_tup, e_lst, asB_bl, t_val, asT_bl, t_tru, t_not, t_and, t_or, e_if, e_and, e_or, e_not, e_chain, e_fld, e_meth, e_con, e_bm, e_star, s_seq, s_drop, s_ret, s_if, s_next, s_retN, s_asg, g_nm, g_sub, s_raise, fn_w, out_rt, out_nx, out_ex, set0, setS, lt_ii, le_ii, gt_ii, ge_ii, sub_ii, add_ii, int_i, eq_ii, ne_ii, sub_ref, sub1_lst, ixSeq0, ixSeq1, ixSeq2, ixSeq3, set_ref, set1_1, set1_2, set1_3, startW, List.map_cons, List.map_nil, List.length_cons, List.length_nil, List.replicate_succ, List.replicate_zero, List.cons_append, List.nil_append, Nat.reduceAdd, Nat.reduceSub, Nat.add_sub_cancel, decide_true, decide_false, Bool.not_true, Bool.not_false, show ¬ (0 : Int) < 0 by decide, wtail0]
    simp [br]
  | succ k ih =>
    intro n fuel s hn hf hs
    obtain ⟨f, rfl⟩ : ∃ f, fuel = f + 1 := ⟨fuel - 1, by omega⟩
    by_cases h0 : n = 0
    · subst h0
      unfold whileGo word_wt0
      simp only [show ((0 : Nat) : Int) = 0 from rfl]
      simp only [bind_ok, bind_ex, fl_ok, fl_ex, sq_nx, sq_rt, sq_ex, sq_bk, sq_ct, br_t, br_f, e_var0, e_varS, e_c, e_bin, a_nil, a_cons, e_fn, e_tup, e_lst, asB_bl, t_val, asT_bl, t_tru, t_not, t_and, t_or, e_if, e_and, e_or, e_not, e_chain, e_fld, e_meth, e_con, e_bm, e_star, s_seq, s_drop, s_ret, s_if, s_next, s_retN, s_asg, g_nm, g_sub, s_raise, fn_w, out_rt, out_nx, out_ex, set0, setS, lt_ii, le_ii, gt_ii, ge_ii, sub_ii, add_ii, int_i, eq_ii, ne_ii, sub_ref, sub1_lst, ixSeq0, ixSeq1, ixSeq2, ixSeq3, set_ref, set1_1, set1_2, set1_3, startW, List.map_cons, List.map_nil, List.length_cons, List.length_nil, List.replicate_succ, List.replicate_zero, List.cons_append, List.nil_append, Nat.reduceAdd, Nat.reduceSub, Nat.add_sub_cancel, decide_true, decide_false, Bool.not_true, Bool.not_false, show ¬ (0 : Int) < 0 by decide, wtail0]
      simp [br]
    · have hp : (0 : Int) < (n : Int) := by omega
      have e1 : ((n : Int) % 36) = ((n % 36 : Nat) : Int) := by omega
      have e2 : ((n : Int) / 36) = ((n / 36 : Nat) : Int) := by omega
      have hl : n % 36 < 36 := Nat.mod_lt _ (by decide)
      have hn2 : n / 36 < 36 ^ k := by
        rw [Nat.div_lt_iff_lt_mul (by decide)]
        rw [Nat.pow_succ] at hn
        exact hn
      have hs2 : (s ++ (⟨#[sign (n % 36)]⟩ : Str)).length + k ≤ 1000 := by
        show (s.cps ++ #[sign (n % 36)]).size + k ≤ 1000
        rw [Array.size_append]
        have : s.cps.size + (k + 1) ≤ 1000 := hs
        simp
        omega
      have hsl : s.length ≤ 1000000 := by omega
      have hst : (⟨#[sign (n % 36)]⟩ : Str).length ≤ 1000000 := by show 1 ≤ 1000000; decide
      have step := ih (n / 36) f (s ++ (⟨#[sign (n % 36)]⟩ : Str)) hn2 (by omega) hs2
      unfold whileGo
      have ht : word_wt0 [some (.int (n : Int)), some (.str letters), some (.str s)] g = .ok true g := by
        unfold word_wt0
        simp only [bind_ok, bind_ex, fl_ok, fl_ex, sq_nx, sq_rt, sq_ex, sq_bk, sq_ct, br_t, br_f, e_var0, e_varS, e_c, e_bin, a_nil, a_cons, e_fn, e_tup, e_lst, asB_bl, t_val, asT_bl, t_tru, t_not, t_and, t_or, e_if, e_and, e_or, e_not, e_chain, e_fld, e_meth, e_con, e_bm, e_star, s_seq, s_drop, s_ret, s_if, s_next, s_retN, s_asg, g_nm, g_sub, s_raise, fn_w, out_rt, out_nx, out_ex, set0, setS, lt_ii, le_ii, gt_ii, ge_ii, sub_ii, add_ii, int_i, eq_ii, ne_ii, sub_ref, sub1_lst, ixSeq0, ixSeq1, ixSeq2, ixSeq3, set_ref, set1_1, set1_2, set1_3, startW, List.map_cons, List.map_nil, List.length_cons, List.length_nil, List.replicate_succ, List.replicate_zero, List.cons_append, List.nil_append, Nat.reduceAdd, Nat.reduceSub, Nat.add_sub_cancel, decide_true, decide_false, Bool.not_true, Bool.not_false, hp]
      rw [ht, fl_ok]
      have hb : word_wb1 [some (.int (n : Int)), some (.str letters), some (.str s)] g = .nx [some (.int ((n / 36 : Nat) : Int)), some (.str letters), some (.str (s ++ (⟨#[sign (n % 36)]⟩ : Str)))] g := by
        unfold word_wb1
        simp only [bind_ok, bind_ex, fl_ok, fl_ex, sq_nx, sq_rt, sq_ex, sq_bk, sq_ct, br_t, br_f, e_var0, e_varS, e_c, e_bin, a_nil, a_cons, e_fn, e_tup, e_lst, asB_bl, t_val, asT_bl, t_tru, t_not, t_and, t_or, e_if, e_and, e_or, e_not, e_chain, e_fld, e_meth, e_con, e_bm, e_star, s_seq, s_drop, s_ret, s_if, s_next, s_retN, s_asg, g_nm, g_sub, s_raise, fn_w, out_rt, out_nx, out_ex, set0, setS, lt_ii, le_ii, gt_ii, ge_ii, sub_ii, add_ii, int_i, eq_ii, ne_ii, sub_ref, sub1_lst, ixSeq0, ixSeq1, ixSeq2, ixSeq3, set_ref, set1_1, set1_2, set1_3, startW, List.map_cons, List.map_nil, List.length_cons, List.length_nil, List.replicate_succ, List.replicate_zero, List.cons_append, List.nil_append, Nat.reduceAdd, Nat.reduceSub, Nat.add_sub_cancel, decide_true, decide_false, Bool.not_true, Bool.not_false, mod_ii (show (0 : Int) < 36 by decide), e1, sub_letters hl, add_ss hsl hst, div_ii (show (0 : Int) < 36 by decide) (by decide), e2]
      rw [if_pos rfl, hb]
      dsimp only
      rw [step]
      have e3 : (s ++ (⟨#[sign (n % 36)]⟩ : Str)).cps ++ (wtail (n / 36)).toArray = s.cps ++ (wtail n).toArray := by
        rw [wtailS (Nat.pos_of_ne_zero h0)]
        show (s.cps ++ #[sign (n % 36)]) ++ (wtail (n / 36)).toArray = _
        simp
      rw [e3]
theorem s_while {c : TD} {b : SD} {σ : Sg} {g : G} : sWhile c b σ g = whileGo c b fuelW σ g := (rfl)
theorem word_at {g : G} {n k : Nat} (hn : n < 26 * 36 ^ k) (hk : k ≤ 900) : f_word [.int n] g = .ok (.str (word n)) g := by
  have e1 : ((n : Int) % 26) = ((n % 26 : Nat) : Int) := by omega
  have e2 : ((n : Int) / 26) = ((n / 26 : Nat) : Int) := by omega
  have hl : n % 26 < 36 := by omega
  have hn2 : n / 26 < 36 ^ k := by
    rw [Nat.div_lt_iff_lt_mul (by decide), Nat.mul_comm]
    exact hn
  have lp := wloop (g := g) k (n / 26) fuelW ⟨#[sign (n % 26)]⟩ hn2 (by unfold fuelW; omega) (by show 1 + k ≤ 1000; omega)
  unfold f_word m_word
  simp only [bind_ok, bind_ex, fl_ok, fl_ex, sq_nx, sq_rt, sq_ex, sq_bk, sq_ct, br_t, br_f, e_var0, e_varS, e_c, e_bin, a_nil, a_cons, e_fn, e_tup, e_lst, asB_bl, t_val, asT_bl, t_tru, t_not, t_and, t_or, e_if, e_and, e_or, e_not, e_chain, e_fld, e_meth, e_con, e_bm, e_star, s_seq, s_drop, s_ret, s_if, s_next, s_retN, s_asg, g_nm, g_sub, s_raise, fn_w, out_rt, out_nx, out_ex, set0, setS, lt_ii, le_ii, gt_ii, ge_ii, sub_ii, add_ii, int_i, eq_ii, ne_ii, sub_ref, sub1_lst, ixSeq0, ixSeq1, ixSeq2, ixSeq3, set_ref, set1_1, set1_2, set1_3, startW, List.map_cons, List.map_nil, List.length_cons, List.length_nil, List.replicate_succ, List.replicate_zero, List.cons_append, List.nil_append, Nat.reduceAdd, Nat.reduceSub, Nat.add_sub_cancel, decide_true, decide_false, Bool.not_true, Bool.not_false, mod_ii (show (0 : Int) < 26 by decide), div_ii (show (0 : Int) < 26 by decide) (show (26 : Int) < 2 ^ 100 by decide), e1, e2, sub_letters hl, s_while, lp]
  rfl
def isLetter (c : Nat) : Prop := 97 ≤ c ∧ c ≤ 122
def isSign (c : Nat) : Prop := isLetter c ∨ (48 ≤ c ∧ c ≤ 57)
structure Nm (s : Str) : Prop where
  len1 : 1 ≤ s.cps.size
  len8 : s.cps.size ≤ 8
  first : ∃ c, s.cps.toList[0]? = some c ∧ isLetter c
  all : ∀ c ∈ s.cps.toList, isSign c
theorem sign_ok {d : Nat} (h : d < 36) : isSign (sign d) := by
  unfold isSign isLetter sign
  split <;> omega
theorem sign_first {d : Nat} (h : d < 26) : isLetter (sign d) := by
  unfold isLetter sign
  rw [if_pos h]
  omega
theorem wtail_len : ∀ (k n : Nat), n < 36 ^ k → (wtail n).length ≤ k
  | 0, n, h => by
    have : n = 0 := by simpa using h
    subst this
    rw [wtail0]; simp
  | k + 1, n, h => by
    by_cases h0 : n = 0
    · subst h0; rw [wtail0]; simp
    · rw [wtailS (Nat.pos_of_ne_zero h0)]
      have := wtail_len k (n / 36) (by rw [Nat.div_lt_iff_lt_mul (by decide)]; rw [Nat.pow_succ] at h; exact h)
      simp
      omega
theorem wtail_sign (n : Nat) : ∀ c ∈ wtail n, isSign c := by
  induction n using Nat.strongRecOn with
  | _ n ih =>
    intro c hc
    by_cases h0 : n = 0
    · subst h0; rw [wtail0] at hc; cases hc
    · rw [wtailS (Nat.pos_of_ne_zero h0)] at hc
      rcases List.mem_cons.mp hc with e | e
      · rw [e]; exact sign_ok (Nat.mod_lt _ (by decide))
      · exact ih (n / 36) (by omega) c e
theorem word_nm {n : Nat} (h : n < 26 * 36 ^ 7) : Nm (word n) := by
  have h2 : n / 26 < 36 ^ 7 := by omega
  have hl := wtail_len 7 _ h2
  refine ⟨by simp [word], by simp [word]; omega, ⟨_, by simp [word]; rfl, sign_first (Nat.mod_lt _ (by decide))⟩, fun c hc => ?_⟩
  simp [word] at hc
  rcases hc with e | e
  · rw [e]; exact sign_ok (by have := Nat.mod_lt n (show 0 < 26 by decide); omega)
  · exact wtail_sign _ c e
end Q
end WL
end
section
set_option maxRecDepth 100000
set_option maxHeartbeats 1000000
namespace WL
namespace Q
open PySem PySem.Spec L2
open PyProof.Rows hiding St
set_option autoImplicit true
/-- the list that is walked stands in the heap below the new one (or nothing is walked) -/
def StillAt (J : Items) (g1 : G) : Prop := match J.at_ with
  | none => True
  | some l => g1[l]? = some (.lst J.ws)
theorem still_app {J : Items} {g1 g2 : G} (h : StillAt J g1) : still J (g1 ++ g2) = true := by
  unfold StillAt at h
  unfold still
  cases e : J.at_ with
  | none => rfl
  | some l =>
    rw [e] at h
    dsimp only at h ⊢
    have hl := (List.getElem?_eq_some_iff.mp h).1
    rw [List.getElem?_append_left hl, h]
    simp
theorem app_last {g1 : G} {acc : List W} {y : W} (h : acc.length ≤ 1000000) : appL g1.length y (g1 ++ [GO.lst acc]) = some (g1 ++ [GO.lst (acc ++ [y])]) := by
  unfold appL
  have e : (g1 ++ [GO.lst acc])[g1.length]? = some (.lst acc) := by simp
  rw [e]
  dsimp only
  rw [if_pos (fits_of h), List.set_append_right _ _ (Nat.le_refl _)]
  simp
/-- [f(x) for x in .. if p(x)] -/
theorem lc_filter {J : Items} {tg : GD} {tt : TD} {te : ED} {own : List Nat} {σ : Sg} {g1 : G} {f : W → W} {p : W → Bool} (hJ : StillAt J g1) (ws : List W) : ∀ (acc : List W), acc.length + ws.length ≤ 1000000 →
    (∀ w ∈ ws, ∀ acc : List W, ∃ σ2, tg w (wipeW σ own) (g1 ++ [GO.lst acc]) = Out.ok σ2 (g1 ++ [GO.lst acc]) ∧ tt σ2 (g1 ++ [GO.lst acc]) = Out.ok (p w) (g1 ++ [GO.lst acc]) ∧ (p w = true → te σ2 (g1 ++ [GO.lst acc]) = Out.ok (f w) (g1 ++ [GO.lst acc]))) →
    lcGo J tg tt te own σ g1.length ws (g1 ++ [GO.lst acc]) = Out.ok () (g1 ++ [GO.lst (acc ++ (ws.filter p).map f)]) := by
  induction ws with
  | nil =>
    intro acc hl h
    unfold lcGo
    rw [if_pos (still_app hJ)]
    simp
  | cons w ws ih =>
    intro acc hl h
    obtain ⟨σ2, h1, h2, h3⟩ := h w List.mem_cons_self acc
    have hl' : acc.length + ws.length + 1 ≤ 1000000 := by simpa [Nat.add_assoc] using hl
    have ih := fun acc' hl' => ih acc' hl' fun w hw => h w (List.mem_cons_of_mem _ hw)
    unfold lcGo
    rw [if_pos (still_app hJ), h1]
    dsimp only
    rw [h2]
    cases hp : p w with
    | false =>
      dsimp only
      rw [ih acc (by omega), List.filter_cons, if_neg (by simp [hp])]
    | true =>
      dsimp only
      rw [h3 hp]
      dsimp only
      rw [app_last (by omega)]
      dsimp only
      rw [ih (acc ++ [f w]) (by rw [List.length_append, List.length_singleton]; omega), List.filter_cons, if_pos hp, List.map_cons, List.append_assoc]
      rfl
theorem lc_map {J : Items} {tg : GD} {te : ED} {own : List Nat} {σ : Sg} {g1 : G} {f : W → W} (hJ : StillAt J g1) (ws acc : List W) (hl : acc.length + ws.length ≤ 1000000)
    (h : ∀ w ∈ ws, ∀ acc : List W, ∃ σ2, tg w (wipeW σ own) (g1 ++ [GO.lst acc]) = Out.ok σ2 (g1 ++ [GO.lst acc]) ∧ te σ2 (g1 ++ [GO.lst acc]) = Out.ok (f w) (g1 ++ [GO.lst acc])) :
    lcGo J tg tYesW te own σ g1.length ws (g1 ++ [GO.lst acc]) = Out.ok () (g1 ++ [GO.lst (acc ++ ws.map f)]) := by
  have e := lc_filter (J := J) (tg := tg) (tt := tYesW) (te := te) (own := own) (σ := σ) (g1 := g1) (f := f) (p := fun _ => true) hJ ws acc hl fun w hw acc => by
    obtain ⟨σ2, h1, h2⟩ := h w hw acc
    exact ⟨σ2, h1, rfl, fun _ => h2⟩
  rw [e, List.filter_eq_self.mpr (fun _ _ => rfl)]
/-- the comprehension as a value -/
theorem e_lc {i : ID} {tg : GD} {tt : TD} {te : ED} {own : List Nat} {σ : Sg} {g : G} : eLc i tg tt te own σ g = (i σ g).bind fun J g1 => match lcGo J tg tt te own σ g1.length J.ws (g1 ++ [GO.lst []]) with
  | .ok _ g2 => .ok (.ref g1.length) g2
  | _ => .bad := rfl
theorem i_range1 {as : AD} {σ : Sg} {g : G} : iRange1 as σ g = (as σ g).bind fun ws g => match ws with
  | [.int n] => if small62 n then .ok (rangeI 0 n) g else .bad
  | _ => .bad := rfl
theorem range_ws {n : Nat} : (rangeI 0 (n : Int)).ws = (List.range n).map fun (i : Nat) => W.int i := by
  unfold rangeI
  simp
theorem small_of {n : Int} (h : 0 ≤ n) (h2 : n < 2 ^ 62) : small62 n = true := decide_eq_true ⟨by omega, h2⟩
end Q
end WL
end
section
set_option maxRecDepth 100000
set_option maxHeartbeats 1000000
namespace WL
namespace Q
open PySem PySem.Spec L2
open PyProof.Rows hiding St
set_option autoImplicit true
abbrev lows : Str := "abcdefghijklmnopqrstuvwxyz"
theorem occ_lows : ∀ d : Fin 26, (Builtin.Str.occurrences lows ⟨#[97 + d.val]⟩ 0 lows.length 1).isEmpty = false := by decide +kernel
theorem occ_letters : ∀ d : Fin 36, (Builtin.Str.occurrences letters ⟨#[sign d.val]⟩ 0 letters.length 1).isEmpty = false := by decide +kernel
theorem sign_of {c : Nat} (h : isSign c) : ∃ d, d < 36 ∧ c = sign d := by
  unfold isSign isLetter at h
  rcases h with h | h
  · exact ⟨c - 97, by omega, by unfold sign; rw [if_pos (by omega)]; omega⟩
  · exact ⟨c - 48 + 26, by omega, by unfold sign; rw [if_neg (by omega)]; omega⟩
theorem in_lows {g : G} {c : Nat} (h : isLetter c) : inF [] (.str ⟨#[c]⟩) (.str lows) g = Out.ok (.bl true) g := by
  unfold isLetter at h
  obtain ⟨d, hd, rfl⟩ : ∃ d, d < 26 ∧ c = 97 + d := ⟨c - 97, by omega, by omega⟩
  have e := occ_lows ⟨d, hd⟩
  unfold inF inW
  dsimp only at e ⊢
  rw [e]
  rfl
theorem in_letters {g : G} {c : Nat} (h : isSign c) : inF [] (.str ⟨#[c]⟩) (.str letters) g = Out.ok (.bl true) g := by
  obtain ⟨d, hd, rfl⟩ := sign_of h
  have e := occ_letters ⟨d, hd⟩
  unfold inF inW
  dsimp only at e ⊢
  rw [e]
  rfl
theorem len_str {g : G} {s : Str} (h : s.length ≤ 1000000) : lenF [.str s] g = Out.ok (.int s.length) g := by
  simp [lenF, fits_of h]
theorem sub_str0 {g : G} {s : Str} {c : Nat} (h : s.length ≤ 1000000) (hc : s.cps.toList[0]? = some c) : subW [] (.str s) (.int 0) g = Out.ok (.str ⟨#[c]⟩) g := by
  have hl : 0 < s.cps.toList.length := (List.getElem?_eq_some_iff.mp hc).1
  have e : atI s.cps.toList 0 = some c := by
    unfold atI ixN
    rw [if_pos (by decide), if_pos (by omega)]
    exact hc
  simp only [subW, fits_of h, if_true, e]
theorem i_txt {a : ED} {σ : Sg} {g : G} : iTxt a σ g = (a σ g).bind fun x g => match x with
  | .str s => .ok ⟨signsW s, none⟩ g
  | _ => .bad := rfl
theorem bools_true : ∀ n : Nat, boolsW (List.replicate n (W.bl true)) = some (List.replicate n true)
  | 0 => rfl
  | n + 1 => by rw [List.replicate_succ, boolsW, bools_true n]; rfl
theorem all_true {g : G} {l n : Nat} (h : g[l]? = some (GO.lst (List.replicate n (W.bl true)))) : allF [.ref l] g = Out.ok (.bl true) g := by
  unfold allF lstB listAt
  dsimp only
  rw [h]
  dsimp only
  rw [bools_true]
  simp
theorem is_name_at {g : G} {s : Str} (h : Nm s) : f_is_name [.str s] g = Out.ok (.bl true) (g ++ [GO.lst (List.replicate s.cps.size (W.bl true))]) := by
  have hl : s.length ≤ 1000000 := Nat.le_trans h.len8 (by decide)
  obtain ⟨c, hc, hc2⟩ := h.first
  have h1 : (1 : Int) ≤ (s.length : Int) := by have := h.len1; show (1 : Int) ≤ ((s.cps.size : Nat) : Int); omega
  have h8 : (s.length : Int) ≤ 8 := by have := h.len8; show ((s.cps.size : Nat) : Int) ≤ 8; omega
  have lc : lcGo ⟨signsW s, none⟩ (gNm 1) tYesW is_name_le0 [1] [some (.str s), none] g.length (signsW s) (g ++ [GO.lst []]) = Out.ok () (g ++ [GO.lst ([] ++ (signsW s).map fun _ => W.bl true)]) := by
    refine lc_map (J := ⟨signsW s, none⟩) (f := fun _ => W.bl true) True.intro (signsW s) [] (by have : s.cps.size ≤ 1000000 := hl; simpa [signsW] using this) fun w hw acc => ?_
    obtain ⟨c, hc, rfl⟩ : ∃ c ∈ s.cps.toList, W.str ⟨#[c]⟩ = w := by simpa [signsW] using hw
    refine ⟨_, rfl, ?_⟩
    unfold is_name_le0
    simp only [bind_ok, bind_ex, fl_ok, fl_ex, sq_nx, sq_rt, sq_ex, sq_bk, sq_ct, br_t, br_f, e_var0, e_varS, e_c, e_bin, a_nil, a_cons, e_fn, e_tup, e_lst, asB_bl, t_val, asT_bl, t_tru, t_not, t_and, t_or, e_if, e_and, e_or, e_not, e_chain, e_fld, e_meth, e_con, e_bm, e_star, s_seq, s_drop, s_ret, s_if, s_next, s_retN, s_asg, g_nm, g_sub, s_raise, fn_w, out_rt, out_nx, out_ex, set0, setS, lt_ii, le_ii, gt_ii, ge_ii, sub_ii, add_ii, int_i, eq_ii, ne_ii, sub_ref, sub1_lst, ixSeq0, ixSeq1, ixSeq2, ixSeq3, set_ref, set1_1, set1_2, set1_3, startW, List.map_cons, List.map_nil, List.length_cons, List.length_nil, List.replicate_succ, List.replicate_zero, List.cons_append, List.nil_append, Nat.reduceAdd, Nat.reduceSub, Nat.add_sub_cancel, decide_true, decide_false, Bool.not_true, Bool.not_false, wipeW, in_letters (h.all c hc)]
  have em : ((signsW s).map fun _ => W.bl true) = List.replicate s.cps.size (W.bl true) := by
    have e : ∀ l : List Nat, (l.map fun c => W.str ⟨#[c]⟩).map (fun _ => W.bl true) = List.replicate l.length (W.bl true) := fun l => by
      induction l with
      | nil => rfl
      | cons a l ih => rw [List.map_cons, List.map_cons, ih, List.length_cons, List.replicate_succ]
    have := e s.cps.toList
    simpa [signsW] using this
  unfold f_is_name m_is_name
  simp only [bind_ok, bind_ex, fl_ok, fl_ex, sq_nx, sq_rt, sq_ex, sq_bk, sq_ct, br_t, br_f, e_var0, e_varS, e_c, e_bin, a_nil, a_cons, e_fn, e_tup, e_lst, asB_bl, t_val, asT_bl, t_tru, t_not, t_and, t_or, e_if, e_and, e_or, e_not, e_chain, e_fld, e_meth, e_con, e_bm, e_star, s_seq, s_drop, s_ret, s_if, s_next, s_retN, s_asg, g_nm, g_sub, s_raise, fn_w, out_rt, out_nx, out_ex, set0, setS, lt_ii, le_ii, gt_ii, ge_ii, sub_ii, add_ii, int_i, eq_ii, ne_ii, sub_ref, sub1_lst, ixSeq0, ixSeq1, ixSeq2, ixSeq3, set_ref, set1_1, set1_2, set1_3, startW, List.map_cons, List.map_nil, List.length_cons, List.length_nil, List.replicate_succ, List.replicate_zero, List.cons_append, List.nil_append, Nat.reduceAdd, Nat.reduceSub, Nat.add_sub_cancel, decide_true, decide_false, Bool.not_true, Bool.not_false, len_str hl, h1, h8, sub_str0 hl hc, in_lows hc2, e_lc, i_txt, lc]
  rw [em, all_true (n := s.cps.size) (by simp)]
  rfl
theorem F_name {g : G} {s : Str} (h : Nm s) : F_is_name [.str s] g = Out.ok (.bl true) (g ++ [GO.lst (List.replicate s.cps.size (W.bl true))]) := is_name_at h
/-- a valid name passes; a list is left behind -/
theorem check_name_at {g : G} {s : Str} (h : Nm s) : F_check_name [.str s] g = Out.ok .non (g ++ [GO.lst (List.replicate s.cps.size (W.bl true))]) := by
  show f_check_name [.str s] g = _
  unfold f_check_name m_check_name
  simp only [bind_ok, bind_ex, fl_ok, fl_ex, sq_nx, sq_rt, sq_ex, sq_bk, sq_ct, br_t, br_f, e_var0, e_varS, e_c, e_bin, a_nil, a_cons, e_fn, e_tup, e_lst, asB_bl, t_val, asT_bl, t_tru, t_not, t_and, t_or, e_if, e_and, e_or, e_not, e_chain, e_fld, e_meth, e_con, e_bm, e_star, s_seq, s_drop, s_ret, s_if, s_next, s_retN, s_asg, g_nm, g_sub, s_raise, fn_w, out_rt, out_nx, out_ex, set0, setS, lt_ii, le_ii, gt_ii, ge_ii, sub_ii, add_ii, int_i, eq_ii, ne_ii, sub_ref, sub1_lst, ixSeq0, ixSeq1, ixSeq2, ixSeq3, set_ref, set1_1, set1_2, set1_3, startW, List.map_cons, List.map_nil, List.length_cons, List.length_nil, List.replicate_succ, List.replicate_zero, List.cons_append, List.nil_append, Nat.reduceAdd, Nat.reduceSub, Nat.add_sub_cancel, decide_true, decide_false, Bool.not_true, Bool.not_false, F_name h]
/-- what stood below stands (nothing that stood was written) -/
def Ext (g g' : G) : Prop := ∃ e, g' = g ++ e
theorem Ext.refl {g : G} : Ext g g := ⟨[], by simp⟩
theorem Ext.app {g e : G} : Ext g (g ++ e) := ⟨e, rfl⟩
theorem Ext.trans {g g1 g2 : G} (a : Ext g g1) (b : Ext g1 g2) : Ext g g2 := by
  obtain ⟨e, rfl⟩ := a
  obtain ⟨f, rfl⟩ := b
  exact ⟨e ++ f, by simp⟩
theorem Ext.at {g g' : G} (h : Ext g g') {l : Nat} {o : GO} (e : g[l]? = some o) : g'[l]? = some o := by
  obtain ⟨x, rfl⟩ := h
  rw [List.getElem?_append_left (List.getElem?_eq_some_iff.mp e).1, e]
/-- what stood stands, but for the places in ms -/
def Keep (ms : List Nat) (g g' : G) : Prop := g.length ≤ g'.length ∧ ∀ l o, l ∉ ms → g[l]? = some o → g'[l]? = some o
theorem Keep.refl {ms g} : Keep ms g g := ⟨Nat.le_refl _, fun _ _ _ h => h⟩
theorem Keep.trans {ms g g1 g2} (a : Keep ms g g1) (b : Keep ms g1 g2) : Keep ms g g2 := ⟨Nat.le_trans a.1 b.1, fun l o h e => b.2 l o h (a.2 l o h e)⟩
theorem Keep.mono {ms ms' g g'} (a : Keep ms g g') (h : ∀ l ∈ ms, l ∈ ms') : Keep ms' g g' := ⟨a.1, fun l o hl e => a.2 l o (fun z => hl (h l z)) e⟩
theorem Ext.keep {ms g g'} (h : Ext g g') : Keep ms g g' := by
  refine ⟨?_, fun l o _ e => h.at e⟩
  obtain ⟨x, rfl⟩ := h
  simp
theorem Keep.set {ms : List Nat} {g : G} {p : Nat} {u : GO} (h : p ∈ ms) : Keep ms g (g.set p u) := ⟨by simp, fun l o hl e => by
  rw [List.getElem?_set_ne (fun z => hl (by rw [← z]; exact h))]
  exact e⟩
end Q
end WL
end
section
set_option maxRecDepth 100000
set_option maxHeartbeats 1000000
namespace WL
namespace Q
open PySem PySem.Spec L2
open PyProof.Rows hiding St
set_option autoImplicit true
theorem app_get0 {g e : G} : (g ++ e)[g.length]? = e[0]? := by rw [List.getElem?_append_right (Nat.le_refl _), Nat.sub_self]
theorem app_getk {g e : G} {k : Nat} : (g ++ e)[g.length + k]? = e[k]? := by rw [List.getElem?_append_right (Nat.le_add_right _ _), Nat.add_sub_cancel_left]
theorem app_set0 {g e : G} {u : GO} : (g ++ e).set g.length u = g ++ e.set 0 u := by
  rw [List.set_append_right _ _ (Nat.le_refl _), Nat.sub_self]
theorem app_setk {g e : G} {k : Nat} {u : GO} : (g ++ e).set (g.length + k) u = g ++ e.set k u := by
  rw [List.set_append_right _ _ (Nat.le_add_right _ _), Nat.add_sub_cancel_left]
theorem app_old {g e : G} {l : Nat} {o : GO} (h : g[l]? = some o) : (g ++ e)[l]? = some o := by
  rw [List.getElem?_append_left (List.getElem?_eq_some_iff.mp h).1, h]
def ins1 (l : Nat) (o : Option GO) : Option (Nat × Nat × List (Nat × W)) := match o with
  | some (.ins c fs) => some (l, c, fs)
  | _ => none
theorem ins_ref {g : G} {l : Nat} : insAt g (.ref l) = ins1 l (g[l]?) := by
  unfold insAt ins1
  rfl
theorem ins1_ins {l c fs} : ins1 l (some (GO.ins c fs)) = some (l, c, fs) := (rfl)
def fld1 (i : Nat) (y : W) (σ : Sg) (g : G) (o : Option (Nat × Nat × List (Nat × W))) : Fl := match o with
  | some (l, c, fs) => br (decide (fs.length < 100)) (.nx σ (g.set l (.ins c (putW i y fs)))) .bad
  | none => .bad
theorem s_fld {i : Nat} {o v : ED} {σ : Sg} {g : G} : gFld i o v σ g = (v σ g).fl σ fun y g => (o σ g).fl σ fun x g => fld1 i y σ g (insAt g x) := by
  unfold gFld
  congr
  funext y g
  congr
  funext x g
  unfold fld1 br
  cases insAt g x with
  | none => rfl
  | some p =>
    obtain ⟨l, c, fs⟩ := p
    dsimp only
    by_cases h : fs.length < 100
    · rw [if_pos h, decide_eq_true h]; rfl
    · rw [if_neg h, decide_eq_false h]; rfl
theorem fld1_some {i : Nat} {y : W} {σ : Sg} {g : G} {l c fs} : fld1 i y σ g (some (l, c, fs)) = br (decide (fs.length < 100)) (.nx σ (g.set l (.ins c (putW i y fs)))) .bad := (rfl)
theorem e_dict0 {σ : Sg} {g : G} : eDict0T σ g = .ok (.ref g.length) (g ++ [GO.dT []]) := (rfl)
/-- the chart at c, its list at ln, its table at le -/
structure ChartAt (g : G) (c ln le : Nat) (wide : Int) (start : Str) (nodes : List Str) (edges : List (List Key × W)) : Prop where
  ins : g[c]? = some (GO.ins 0 [(0, .int wide), (1, .str start), (2, .ref ln), (3, .ref le)])
  nodes : g[ln]? = some (GO.lst (nodes.map W.str))
  edges : g[le]? = some (GO.dT edges)
theorem fits1 : fits 1 = true := (rfl)
theorem fits2' : fits 2 = true := (rfl)
theorem init_at {g : G} {wide : Int} {s : Str} (h1 : 1 ≤ wide) (h4 : wide ≤ 4) (h : Nm s) :
    arity 2 (mkW 0 f_Chart_init) [.int wide, .str s] g = Out.ok (.ref g.length) (g ++ [GO.ins 0 [(0, .int wide), (1, .str s), (2, .ref (g.length + 2)), (3, .ref (g.length + 3))], GO.lst (List.replicate s.cps.size (W.bl true)), GO.lst [.str s], GO.dT []]) := by
  have key : f_Chart_init [.ref g.length, .int wide, .str s] (g ++ [GO.ins 0 []]) = Out.ok .non (g ++ [GO.ins 0 [(0, .int wide), (1, .str s), (2, .ref (g.length + 2)), (3, .ref (g.length + 3))], GO.lst (List.replicate s.cps.size (W.bl true)), GO.lst [.str s], GO.dT []]) := by
    unfold f_Chart_init m_Chart_init
    simp only [bind_ok, bind_ex, fl_ok, fl_ex, sq_nx, sq_rt, sq_ex, sq_bk, sq_ct, br_t, br_f, e_var0, e_varS, e_c, e_bin, a_nil, a_cons, e_fn, e_tup, e_lst, asB_bl, t_val, asT_bl, t_tru, t_not, t_and, t_or, e_if, e_and, e_or, e_not, e_chain, e_fld, e_meth, e_con, e_bm, e_star, s_seq, s_drop, s_ret, s_if, s_next, s_retN, s_asg, g_nm, g_sub, s_raise, fn_w, out_rt, out_nx, out_ex, set0, setS, lt_ii, le_ii, gt_ii, ge_ii, sub_ii, add_ii, int_i, eq_ii, ne_ii, sub_ref, sub1_lst, ixSeq0, ixSeq1, ixSeq2, ixSeq3, set_ref, set1_1, set1_2, set1_3, startW, List.map_cons, List.map_nil, List.length_cons, List.length_nil, List.replicate_succ, List.replicate_zero, List.cons_append, List.nil_append, Nat.reduceAdd, Nat.reduceSub, Nat.add_sub_cancel, decide_true, decide_false, Bool.not_true, Bool.not_false, s_fld, ins_ref, List.append_assoc, app_get0, app_getk, app_set0, app_setk, List.getElem?_cons_zero, ins1_ins, fld1_some, putW, e_dict0, List.length_append, List.set_cons_zero, List.set_cons_succ, List.getElem?_cons_succ, Nat.reduceLT, Nat.reduceEqDiff, ↓reduceIte, Nat.zero_ne_one, Nat.one_ne_zero, h1, h4, check_name_at h, fits1]
  rw [arity_ok (n := 2) rfl]
  unfold mkW
  rw [key]
/-- a target: a name or None -/
def tgW : Option Str → W
  | none => .non
  | some s => .str s
def TgOk : Option Str → Prop
  | none => True
  | some s => Nm s
def grow1 (nodes : List Str) (s : Str) : List Str := if s ∈ nodes then nodes else nodes ++ [s]
def grown (nodes : List Str) (node : Str) (t : Option Str) : List Str := match t with
  | none => grow1 nodes node
  | some s => grow1 (grow1 nodes node) s
theorem inL_str {s : Str} : ∀ l : List Str, inL (.str s) (l.map W.str) = decide (s ∈ l)
  | [] => by simp [inL]
  | a :: l => by
    have ih := inL_str (s := s) l
    unfold inL at ih ⊢
    rw [List.map_cons, List.any_cons, ih]
    have e : eqV (toV (.str a)) (toV (.str s)) = decide (s = a) := by
      show (a == s) = decide (s = a)
      by_cases h : s = a
      · subst h; simp
      · rw [decide_eq_false h, beq_eq_false_iff_ne]
        exact fun z => h z.symm
    rw [e]
    simp
theorem flat_strs : ∀ l : List Str, (l.map W.str).all flatW = true
  | [] => rfl
  | a :: l => by rw [List.map_cons, List.all_cons, flat_strs l]; rfl
theorem in_lst {g : G} {l : Nat} {nodes : List Str} {s : Str} (h : g[l]? = some (GO.lst (nodes.map W.str))) : inF [] (.str s) (.ref l) g = Out.ok (.bl (decide (s ∈ nodes))) g := by
  unfold inF inW
  dsimp only
  simp only [seqAt, listAt, h, flat_strs, flatW, Bool.and_true, if_true, inL_str, negW]
  simp
theorem notin_lst {g : G} {l : Nat} {nodes : List Str} {s : Str} (h : g[l]? = some (GO.lst (nodes.map W.str))) : notinF [] (.str s) (.ref l) g = Out.ok (.bl (!decide (s ∈ nodes))) g := by
  unfold notinF inW
  dsimp only
  simp only [seqAt, listAt, h, flat_strs, flatW, Bool.and_true, if_true, inL_str, negW]
  simp
end Q
end WL
end
section
set_option maxRecDepth 100000
set_option maxHeartbeats 1000000
namespace WL
namespace Q
open PySem PySem.Spec L2
open PyProof.Rows hiding St
set_option autoImplicit true
def app1 (l : Nat) (y : W) (g : G) (o : Option GO) : Out W := match o with
  | some (.lst xs) => br (fits xs.length) (.ok .non (g.set l (.lst (xs ++ [y])))) .bad
  | _ => .bad
theorem app_ref {g : G} {l : Nat} {y : W} : appendM (.ref l) [y] g = app1 l y g (g[l]?) := by
  cases h : g[l]? with
  | none => simp [appendM, h, app1]
  | some o => cases o <;> simp only [appendM, h, app1] <;> rfl
theorem app1_lst {g : G} {l : Nat} {y : W} {xs : List W} : app1 l y g (some (GO.lst xs)) = br (fits xs.length) (.ok .non (g.set l (.lst (xs ++ [y])))) .bad := (rfl)
def isL (o : Option GO) : Bool := match o with
  | some (.lst _) => true
  | _ => false
theorem ty_ref {g : G} {l : Nat} : tyW "list" g (.ref l) = isL (g[l]?) := by
  cases h : g[l]? with
  | none => simp [tyW, h, isL]
  | some o => cases o <;> simp [tyW, h, isL]
theorem isL_lst {xs : List W} : isL (some (GO.lst xs)) = true := (rfl)
def list1 (g : G) (o : Option GO) : Out W := match o with
  | some (.lst xs) => .ok (.ref g.length) (g ++ [GO.lst xs])
  | _ => .bad
theorem list_ref {g : G} {l : Nat} : listF [.ref l] g = list1 g (g[l]?) := by
  cases h : g[l]? with
  | none => simp [listF, seqAt, listAt, h, list1]
  | some o => cases o <;> simp [listF, seqAt, listAt, h, list1]
theorem list1_lst {g : G} {xs : List W} : list1 g (some (GO.lst xs)) = .ok (.ref g.length) (g ++ [GO.lst xs]) := (rfl)
theorem g_tup2 {a b : GD} {x y : W} {σ : Sg} {g : G} : gTupW 2 (gsCons a (gsCons b gsNil)) (.tup [x, y]) σ g = (match a x σ g with
  | .ok σ g => match b y σ g with
    | .ok σ g => .ok σ g
    | _ => .bad
  | _ => .bad) := by
  simp only [gTupW, List.length_cons, List.length_nil, if_true, gsCons, gsNil]
  cases a x σ g with
  | ok σ1 g1 =>
    dsimp only
    cases b y σ1 g1 <;> rfl
  | _ => rfl
theorem not_non {g : G} : notNF .non .non g = .ok (.bl false) g := (rfl)
theorem not_str {g : G} {s : Str} : notNF (.str s) .non g = .ok (.bl true) g := (rfl)
theorem len_ref {g : G} {l : Nat} {ws : List W} (h : g[l]? = some (.lst ws)) : lenF [.ref l] g = Out.ok (.int ws.length) g := len_lst h
def nin1 (s : Str) (l : Nat) (g : G) (o : Option GO) : Out W := match o with
  | some (.lst ws) => br (ws.all flatW) (.ok (.bl (!inL (.str s) ws)) g) (notinF [] (.str s) (.ref l) g)
  | _ => notinF [] (.str s) (.ref l) g
theorem nin_ref {g : G} {l : Nat} {s : Str} : notinF [] (.str s) (.ref l) g = nin1 s l g (g[l]?) := by
  cases h : g[l]? with
  | none => rfl
  | some o =>
    cases o with
    | lst ws =>
      unfold nin1 br
      dsimp only
      by_cases ha : ws.all flatW = true
      · rw [ha]
        unfold notinF inW
        dsimp only
        simp only [seqAt, listAt, h, ha, flatW, Bool.and_true, if_true, negW]
        simp
      · rw [if_neg ha]
    | _ => rfl
theorem nin1_strs {g : G} {l : Nat} {s : Str} {nodes : List Str} : nin1 s l g (some (GO.lst (nodes.map W.str))) = .ok (.bl (!decide (s ∈ nodes))) g := by
  unfold nin1 br
  dsimp only
  rw [flat_strs, inL_str]
  rfl
theorem snoc_map {nodes : List Str} {s : Str} : nodes.map W.str ++ [W.str s] = (nodes ++ [s]).map W.str := by simp
theorem snoc_get {nodes : List Str} {s : Str} : GO.lst (nodes.map W.str ++ [W.str s]) = GO.lst ((nodes ++ [s]).map W.str) := by rw [snoc_map]
def len1 (g : G) (o : Option GO) (l : Nat) : Out W := match o with
  | some (.lst ws) => .ok (.int ws.length) g
  | _ => lenF [.ref l] g
theorem len_ref1 {g : G} {l : Nat} : lenF [.ref l] g = len1 g (g[l]?) l := by
  cases h : g[l]? with
  | none => rfl
  | some o => cases o <;> first | rfl | (rw [len_lst h]; rfl)
theorem len1_lst {g : G} {l : Nat} {ws : List W} : len1 g (some (GO.lst ws)) l = .ok (.int ws.length) g := (rfl)
/-- reading the model's own instance: its constant -/
theorem con16 {g : G} {c : Nat} {fs} (h : g[c]? = some (GO.ins 0 fs)) : insAt g (.ref c) = some (c, 0, fs) := by rw [ins_ref, h]; rfl
theorem set1_dT {d : Disp} {l : Nat} {y w : W} {g : G} {kvs : List (List Key × W)} : set1 d l y w g (some (GO.dT kvs)) = match keysW y with
    | some k => if fits kvs.length then .ok () (g.set l (.dT (putKW k w kvs))) else .bad
    | none => .bad := rfl
/-- the key of an edge -/
abbrev ek (node : Str) (out : Int) : List Key := [Sum.inr node, Sum.inl out]
theorem set1_ek {d : Disp} {l : Nat} {w : W} {g : G} {node : Str} {out : Int} {kvs : List (List Key × W)} (h : fits kvs.length = true) : set1 d l (.tup [.str node, .int out]) w g (some (GO.dT kvs)) = .ok () (g.set l (GO.dT (putKW (ek node out) w kvs))) := by
  rw [set1_dT]
  have e : keysW (.tup [.str node, .int out]) = some (ek node out) := rfl
  rw [e]
  dsimp only
  rw [h, if_pos rfl]
abbrev insC (wide : Int) (start : Str) (ln le : Nat) : GO := GO.ins 0 [(0, .int wide), (1, .str start), (2, .ref ln), (3, .ref le)]
theorem set_at {g : G} {c ln le : Nat} {wide out : Int} {start node name : Str} {nodes : List Str} {edges : List (List Key × W)} {tg : Option Str} (C : ChartAt g c ln le wide start nodes edges) (hn : Nm node) (hm : Nm name) (ht : TgOk tg) (h0 : 0 ≤ out) (h1 : out < wide) (hl : nodes.length ≤ 1000) (he : edges.length ≤ 1000) :
    ((16 : Int) < ((grown nodes node tg).length : Nat) → ∃ e : G, f_Chart_setitem [.ref c, .tup [.str node, .int out], .tup [.str name, tgW tg]] g = Out.ex 5 [(7, .int 16)] (g ++ e)) ∧
    (¬ (16 : Int) < ((grown nodes node tg).length : Nat) → ∃ e : G, e[2]? = some (GO.lst ((grown nodes node tg).map W.str)) ∧
      f_Chart_setitem [.ref c, .tup [.str node, .int out], .tup [.str name, tgW tg]] g = Out.ok .non (((g.set c (insC wide start (g.length + 2) le)).set le (GO.dT (putKW (ek node out) (.tup [.str name, tgW tg]) edges))) ++ e)) := by
  have hcl := (List.getElem?_eq_some_iff.mp C.ins).1
  have hll := (List.getElem?_eq_some_iff.mp C.edges).1
  have ncl : c ≠ le := fun z => by
    have := C.ins; rw [z, C.edges] at this; cases this
  have hc : ∀ e, (g ++ e)[c]? = some (GO.ins 0 [(0, .int wide), (1, .str start), (2, .ref ln), (3, .ref le)]) := fun e => app_old C.ins
  have hln : ∀ e, (g ++ e)[ln]? = some (GO.lst (nodes.map W.str)) := fun e => app_old C.nodes
  have f1 : fits nodes.length = true := fits_of (by omega)
  have f1' : fits (nodes.length + 1) = true := fits_of (by omega)
  have fe : fits edges.length = true := fits_of (by omega)
  have hcs : ∀ u e, (g ++ e).set c u = g.set c u ++ e := fun u e => List.set_append_left _ _ hcl
  have hcu : ∀ u e, (g.set c u ++ e)[c]? = some u := fun u e => app_old (at_set C.ins)
  have hcle : ∀ u e, (g.set c u ++ e)[le]? = some (GO.dT edges) := fun u e => app_old (by rw [at_set_ne ncl]; exact C.edges)
  have hles : ∀ u v e, (g.set c u ++ e).set le v = (g.set c u).set le v ++ e := fun u v e => List.set_append_left _ _ (by simpa using hll)
  have f2' : fits (nodes.length + 1 + 1) = true := fits_of (by omega)
  cases tg with
  | none =>
    by_cases k1 : node ∈ nodes
    · have eg : grown nodes node none = nodes := by simp [grown, grow1, k1]
      rw [eg]
      refine ⟨fun k16 => ⟨[GO.lst (List.replicate node.cps.size (W.bl true)), GO.lst (List.replicate name.cps.size (W.bl true)), GO.lst (nodes.map W.str)], ?_⟩, fun k16 => ⟨[GO.lst (List.replicate node.cps.size (W.bl true)), GO.lst (List.replicate name.cps.size (W.bl true)), GO.lst (nodes.map W.str)], rfl, ?_⟩⟩
      · unfold f_Chart_setitem m_Chart_setitem
        simp only [bind_ok, bind_ex, fl_ok, fl_ex, sq_nx, sq_rt, sq_ex, sq_bk, sq_ct, br_t, br_f, e_var0, e_varS, e_c, e_bin, a_nil, a_cons, e_fn, e_tup, e_lst, asB_bl, t_val, asT_bl, t_tru, t_not, t_and, t_or, e_if, e_and, e_or, e_not, e_chain, e_fld, e_meth, e_con, e_bm, e_star, s_seq, s_drop, s_ret, s_if, s_next, s_retN, s_asg, g_nm, g_sub, s_raise, fn_w, out_rt, out_nx, out_ex, set0, setS, lt_ii, le_ii, gt_ii, ge_ii, sub_ii, add_ii, int_i, eq_ii, ne_ii, sub_ref, sub1_lst, ixSeq0, ixSeq1, ixSeq2, ixSeq3, set_ref, set1_1, set1_2, set1_3, startW, List.map_cons, List.map_nil, List.length_cons, List.length_nil, List.replicate_succ, List.replicate_zero, List.cons_append, List.nil_append, Nat.reduceAdd, Nat.reduceSub, Nat.add_sub_cancel, decide_true, decide_false, Bool.not_true, Bool.not_false, s_fld, ins_ref, List.append_assoc, app_get0, app_getk, app_set0, app_setk, List.getElem?_cons_zero, ins1_ins, fld1_some, putW, e_dict0, List.length_append, List.set_cons_zero, List.set_cons_succ, List.getElem?_cons_succ, Nat.reduceLT, Nat.reduceEqDiff, ↓reduceIte, Nat.zero_ne_one, Nat.one_ne_zero, g_tup2, app_ref, app1_lst, ty_ref, isL_lst, list_ref, list1_lst, not_non, not_str, Nat.zero_add, nin_ref, nin1_strs, snoc_get, len_ref1, len1_lst, List.length_map, check_name_at hn, check_name_at hm, tgW, h0, h1, hc, C.ins, hln, fldOf, getW, k1, f1, k16]
        rfl
      · unfold f_Chart_setitem m_Chart_setitem
        simp only [bind_ok, bind_ex, fl_ok, fl_ex, sq_nx, sq_rt, sq_ex, sq_bk, sq_ct, br_t, br_f, e_var0, e_varS, e_c, e_bin, a_nil, a_cons, e_fn, e_tup, e_lst, asB_bl, t_val, asT_bl, t_tru, t_not, t_and, t_or, e_if, e_and, e_or, e_not, e_chain, e_fld, e_meth, e_con, e_bm, e_star, s_seq, s_drop, s_ret, s_if, s_next, s_retN, s_asg, g_nm, g_sub, s_raise, fn_w, out_rt, out_nx, out_ex, set0, setS, lt_ii, le_ii, gt_ii, ge_ii, sub_ii, add_ii, int_i, eq_ii, ne_ii, sub_ref, sub1_lst, ixSeq0, ixSeq1, ixSeq2, ixSeq3, set_ref, set1_1, set1_2, set1_3, startW, List.map_cons, List.map_nil, List.length_cons, List.length_nil, List.replicate_succ, List.replicate_zero, List.cons_append, List.nil_append, Nat.reduceAdd, Nat.reduceSub, Nat.add_sub_cancel, decide_true, decide_false, Bool.not_true, Bool.not_false, s_fld, ins_ref, List.append_assoc, app_get0, app_getk, app_set0, app_setk, List.getElem?_cons_zero, ins1_ins, fld1_some, putW, e_dict0, List.length_append, List.set_cons_zero, List.set_cons_succ, List.getElem?_cons_succ, Nat.reduceLT, Nat.reduceEqDiff, ↓reduceIte, Nat.zero_ne_one, Nat.one_ne_zero, g_tup2, app_ref, app1_lst, ty_ref, isL_lst, list_ref, list1_lst, not_non, not_str, Nat.zero_add, nin_ref, nin1_strs, snoc_get, len_ref1, len1_lst, List.length_map, check_name_at hn, check_name_at hm, tgW, h0, h1, hc, C.ins, hln, fldOf, getW, k1, f1, k16, hcs, hcu, hcle, hles, set1_ek fe, fits2', Nat.reduceLT]
    · have eg : grown nodes node none = nodes ++ [node] := by simp [grown, grow1, k1]
      rw [eg]
      have el : (nodes ++ [node]).length = nodes.length + 1 := by simp
      rw [el]
      refine ⟨fun k16 => ⟨[GO.lst (List.replicate node.cps.size (W.bl true)), GO.lst (List.replicate name.cps.size (W.bl true)), GO.lst ((nodes ++ [node]).map W.str)], ?_⟩, fun k16 => ⟨[GO.lst (List.replicate node.cps.size (W.bl true)), GO.lst (List.replicate name.cps.size (W.bl true)), GO.lst ((nodes ++ [node]).map W.str)], rfl, ?_⟩⟩
      · unfold f_Chart_setitem m_Chart_setitem
        simp only [bind_ok, bind_ex, fl_ok, fl_ex, sq_nx, sq_rt, sq_ex, sq_bk, sq_ct, br_t, br_f, e_var0, e_varS, e_c, e_bin, a_nil, a_cons, e_fn, e_tup, e_lst, asB_bl, t_val, asT_bl, t_tru, t_not, t_and, t_or, e_if, e_and, e_or, e_not, e_chain, e_fld, e_meth, e_con, e_bm, e_star, s_seq, s_drop, s_ret, s_if, s_next, s_retN, s_asg, g_nm, g_sub, s_raise, fn_w, out_rt, out_nx, out_ex, set0, setS, lt_ii, le_ii, gt_ii, ge_ii, sub_ii, add_ii, int_i, eq_ii, ne_ii, sub_ref, sub1_lst, ixSeq0, ixSeq1, ixSeq2, ixSeq3, set_ref, set1_1, set1_2, set1_3, startW, List.map_cons, List.map_nil, List.length_cons, List.length_nil, List.replicate_succ, List.replicate_zero, List.cons_append, List.nil_append, Nat.reduceAdd, Nat.reduceSub, Nat.add_sub_cancel, decide_true, decide_false, Bool.not_true, Bool.not_false, s_fld, ins_ref, List.append_assoc, app_get0, app_getk, app_set0, app_setk, List.getElem?_cons_zero, ins1_ins, fld1_some, putW, e_dict0, List.length_append, List.set_cons_zero, List.set_cons_succ, List.getElem?_cons_succ, Nat.reduceLT, Nat.reduceEqDiff, ↓reduceIte, Nat.zero_ne_one, Nat.one_ne_zero, g_tup2, app_ref, app1_lst, ty_ref, isL_lst, list_ref, list1_lst, not_non, not_str, Nat.zero_add, nin_ref, nin1_strs, snoc_get, len_ref1, len1_lst, List.length_map, check_name_at hn, check_name_at hm, tgW, h0, h1, hc, C.ins, hln, fldOf, getW, k1, f1, k16, el]
        rfl
      · unfold f_Chart_setitem m_Chart_setitem
        simp only [bind_ok, bind_ex, fl_ok, fl_ex, sq_nx, sq_rt, sq_ex, sq_bk, sq_ct, br_t, br_f, e_var0, e_varS, e_c, e_bin, a_nil, a_cons, e_fn, e_tup, e_lst, asB_bl, t_val, asT_bl, t_tru, t_not, t_and, t_or, e_if, e_and, e_or, e_not, e_chain, e_fld, e_meth, e_con, e_bm, e_star, s_seq, s_drop, s_ret, s_if, s_next, s_retN, s_asg, g_nm, g_sub, s_raise, fn_w, out_rt, out_nx, out_ex, set0, setS, lt_ii, le_ii, gt_ii, ge_ii, sub_ii, add_ii, int_i, eq_ii, ne_ii, sub_ref, sub1_lst, ixSeq0, ixSeq1, ixSeq2, ixSeq3, set_ref, set1_1, set1_2, set1_3, startW, List.map_cons, List.map_nil, List.length_cons, List.length_nil, List.replicate_succ, List.replicate_zero, List.cons_append, List.nil_append, Nat.reduceAdd, Nat.reduceSub, Nat.add_sub_cancel, decide_true, decide_false, Bool.not_true, Bool.not_false, s_fld, ins_ref, List.append_assoc, app_get0, app_getk, app_set0, app_setk, List.getElem?_cons_zero, ins1_ins, fld1_some, putW, e_dict0, List.length_append, List.set_cons_zero, List.set_cons_succ, List.getElem?_cons_succ, Nat.reduceLT, Nat.reduceEqDiff, ↓reduceIte, Nat.zero_ne_one, Nat.one_ne_zero, g_tup2, app_ref, app1_lst, ty_ref, isL_lst, list_ref, list1_lst, not_non, not_str, Nat.zero_add, nin_ref, nin1_strs, snoc_get, len_ref1, len1_lst, List.length_map, check_name_at hn, check_name_at hm, tgW, h0, h1, hc, C.ins, hln, fldOf, getW, k1, f1, k16, hcs, hcu, hcle, hles, set1_ek fe, fits2', Nat.reduceLT, el]
  | some s =>
    have ht' : Nm s := ht
    by_cases k1 : node ∈ nodes
    · by_cases k2 : s ∈ nodes
      · skip
        have eg : grown nodes node (some s) = nodes := by
          show grow1 (grow1 nodes node) s = _
          unfold grow1
          rw [if_pos k1, if_pos k2]
        rw [eg]
        have el1 : (nodes ++ [node]).length = nodes.length + 1 := by simp
        have el : (nodes).length = nodes.length := by simp
        rw [el]
        refine ⟨fun k16 => ⟨[GO.lst (List.replicate node.cps.size (W.bl true)), GO.lst (List.replicate name.cps.size (W.bl true)), GO.lst (nodes.map W.str), GO.lst (List.replicate s.cps.size (W.bl true))], ?_⟩, fun k16 => ⟨[GO.lst (List.replicate node.cps.size (W.bl true)), GO.lst (List.replicate name.cps.size (W.bl true)), GO.lst (nodes.map W.str), GO.lst (List.replicate s.cps.size (W.bl true))], rfl, ?_⟩⟩
        · unfold f_Chart_setitem m_Chart_setitem
          simp only [bind_ok, bind_ex, fl_ok, fl_ex, sq_nx, sq_rt, sq_ex, sq_bk, sq_ct, br_t, br_f, e_var0, e_varS, e_c, e_bin, a_nil, a_cons, e_fn, e_tup, e_lst, asB_bl, t_val, asT_bl, t_tru, t_not, t_and, t_or, e_if, e_and, e_or, e_not, e_chain, e_fld, e_meth, e_con, e_bm, e_star, s_seq, s_drop, s_ret, s_if, s_next, s_retN, s_asg, g_nm, g_sub, s_raise, fn_w, out_rt, out_nx, out_ex, set0, setS, lt_ii, le_ii, gt_ii, ge_ii, sub_ii, add_ii, int_i, eq_ii, ne_ii, sub_ref, sub1_lst, ixSeq0, ixSeq1, ixSeq2, ixSeq3, set_ref, set1_1, set1_2, set1_3, startW, List.map_cons, List.map_nil, List.length_cons, List.length_nil, List.replicate_succ, List.replicate_zero, List.cons_append, List.nil_append, Nat.reduceAdd, Nat.reduceSub, Nat.add_sub_cancel, decide_true, decide_false, Bool.not_true, Bool.not_false, s_fld, ins_ref, List.append_assoc, app_get0, app_getk, app_set0, app_setk, List.getElem?_cons_zero, ins1_ins, fld1_some, putW, e_dict0, List.length_append, List.set_cons_zero, List.set_cons_succ, List.getElem?_cons_succ, Nat.reduceLT, Nat.reduceEqDiff, ↓reduceIte, Nat.zero_ne_one, Nat.one_ne_zero, g_tup2, app_ref, app1_lst, ty_ref, isL_lst, list_ref, list1_lst, not_non, not_str, Nat.zero_add, nin_ref, nin1_strs, snoc_get, len_ref1, len1_lst, List.length_map, check_name_at hn, check_name_at hm, check_name_at ht', tgW, h0, h1, hc, C.ins, hln, fldOf, getW, k1, k2, f1, f1', k16, el1, el]
          rfl
        · unfold f_Chart_setitem m_Chart_setitem
          simp only [bind_ok, bind_ex, fl_ok, fl_ex, sq_nx, sq_rt, sq_ex, sq_bk, sq_ct, br_t, br_f, e_var0, e_varS, e_c, e_bin, a_nil, a_cons, e_fn, e_tup, e_lst, asB_bl, t_val, asT_bl, t_tru, t_not, t_and, t_or, e_if, e_and, e_or, e_not, e_chain, e_fld, e_meth, e_con, e_bm, e_star, s_seq, s_drop, s_ret, s_if, s_next, s_retN, s_asg, g_nm, g_sub, s_raise, fn_w, out_rt, out_nx, out_ex, set0, setS, lt_ii, le_ii, gt_ii, ge_ii, sub_ii, add_ii, int_i, eq_ii, ne_ii, sub_ref, sub1_lst, ixSeq0, ixSeq1, ixSeq2, ixSeq3, set_ref, set1_1, set1_2, set1_3, startW, List.map_cons, List.map_nil, List.length_cons, List.length_nil, List.replicate_succ, List.replicate_zero, List.cons_append, List.nil_append, Nat.reduceAdd, Nat.reduceSub, Nat.add_sub_cancel, decide_true, decide_false, Bool.not_true, Bool.not_false, s_fld, ins_ref, List.append_assoc, app_get0, app_getk, app_set0, app_setk, List.getElem?_cons_zero, ins1_ins, fld1_some, putW, e_dict0, List.length_append, List.set_cons_zero, List.set_cons_succ, List.getElem?_cons_succ, Nat.reduceLT, Nat.reduceEqDiff, ↓reduceIte, Nat.zero_ne_one, Nat.one_ne_zero, g_tup2, app_ref, app1_lst, ty_ref, isL_lst, list_ref, list1_lst, not_non, not_str, Nat.zero_add, nin_ref, nin1_strs, snoc_get, len_ref1, len1_lst, List.length_map, check_name_at hn, check_name_at hm, check_name_at ht', tgW, h0, h1, hc, C.ins, hln, fldOf, getW, k1, k2, f1, f1', k16, hcs, hcu, hcle, hles, set1_ek fe, fits2', Nat.reduceLT, el1, el]
      · skip
        have eg : grown nodes node (some s) = (nodes ++ [s]) := by
          show grow1 (grow1 nodes node) s = _
          unfold grow1
          rw [if_pos k1, if_neg k2]
        rw [eg]
        have el1 : (nodes ++ [node]).length = nodes.length + 1 := by simp
        have el : ((nodes ++ [s])).length = nodes.length + 1 := by simp
        rw [el]
        refine ⟨fun k16 => ⟨[GO.lst (List.replicate node.cps.size (W.bl true)), GO.lst (List.replicate name.cps.size (W.bl true)), GO.lst ((nodes ++ [s]).map W.str), GO.lst (List.replicate s.cps.size (W.bl true))], ?_⟩, fun k16 => ⟨[GO.lst (List.replicate node.cps.size (W.bl true)), GO.lst (List.replicate name.cps.size (W.bl true)), GO.lst ((nodes ++ [s]).map W.str), GO.lst (List.replicate s.cps.size (W.bl true))], rfl, ?_⟩⟩
        · unfold f_Chart_setitem m_Chart_setitem
          simp only [bind_ok, bind_ex, fl_ok, fl_ex, sq_nx, sq_rt, sq_ex, sq_bk, sq_ct, br_t, br_f, e_var0, e_varS, e_c, e_bin, a_nil, a_cons, e_fn, e_tup, e_lst, asB_bl, t_val, asT_bl, t_tru, t_not, t_and, t_or, e_if, e_and, e_or, e_not, e_chain, e_fld, e_meth, e_con, e_bm, e_star, s_seq, s_drop, s_ret, s_if, s_next, s_retN, s_asg, g_nm, g_sub, s_raise, fn_w, out_rt, out_nx, out_ex, set0, setS, lt_ii, le_ii, gt_ii, ge_ii, sub_ii, add_ii, int_i, eq_ii, ne_ii, sub_ref, sub1_lst, ixSeq0, ixSeq1, ixSeq2, ixSeq3, set_ref, set1_1, set1_2, set1_3, startW, List.map_cons, List.map_nil, List.length_cons, List.length_nil, List.replicate_succ, List.replicate_zero, List.cons_append, List.nil_append, Nat.reduceAdd, Nat.reduceSub, Nat.add_sub_cancel, decide_true, decide_false, Bool.not_true, Bool.not_false, s_fld, ins_ref, List.append_assoc, app_get0, app_getk, app_set0, app_setk, List.getElem?_cons_zero, ins1_ins, fld1_some, putW, e_dict0, List.length_append, List.set_cons_zero, List.set_cons_succ, List.getElem?_cons_succ, Nat.reduceLT, Nat.reduceEqDiff, ↓reduceIte, Nat.zero_ne_one, Nat.one_ne_zero, g_tup2, app_ref, app1_lst, ty_ref, isL_lst, list_ref, list1_lst, not_non, not_str, Nat.zero_add, nin_ref, nin1_strs, snoc_get, len_ref1, len1_lst, List.length_map, check_name_at hn, check_name_at hm, check_name_at ht', tgW, h0, h1, hc, C.ins, hln, fldOf, getW, k1, k2, f1, f1', k16, el1, el]
          rfl
        · unfold f_Chart_setitem m_Chart_setitem
          simp only [bind_ok, bind_ex, fl_ok, fl_ex, sq_nx, sq_rt, sq_ex, sq_bk, sq_ct, br_t, br_f, e_var0, e_varS, e_c, e_bin, a_nil, a_cons, e_fn, e_tup, e_lst, asB_bl, t_val, asT_bl, t_tru, t_not, t_and, t_or, e_if, e_and, e_or, e_not, e_chain, e_fld, e_meth, e_con, e_bm, e_star, s_seq, s_drop, s_ret, s_if, s_next, s_retN, s_asg, g_nm, g_sub, s_raise, fn_w, out_rt, out_nx, out_ex, set0, setS, lt_ii, le_ii, gt_ii, ge_ii, sub_ii, add_ii, int_i, eq_ii, ne_ii, sub_ref, sub1_lst, ixSeq0, ixSeq1, ixSeq2, ixSeq3, set_ref, set1_1, set1_2, set1_3, startW, List.map_cons, List.map_nil, List.length_cons, List.length_nil, List.replicate_succ, List.replicate_zero, List.cons_append, List.nil_append, Nat.reduceAdd, Nat.reduceSub, Nat.add_sub_cancel, decide_true, decide_false, Bool.not_true, Bool.not_false, s_fld, ins_ref, List.append_assoc, app_get0, app_getk, app_set0, app_setk, List.getElem?_cons_zero, ins1_ins, fld1_some, putW, e_dict0, List.length_append, List.set_cons_zero, List.set_cons_succ, List.getElem?_cons_succ, Nat.reduceLT, Nat.reduceEqDiff, ↓reduceIte, Nat.zero_ne_one, Nat.one_ne_zero, g_tup2, app_ref, app1_lst, ty_ref, isL_lst, list_ref, list1_lst, not_non, not_str, Nat.zero_add, nin_ref, nin1_strs, snoc_get, len_ref1, len1_lst, List.length_map, check_name_at hn, check_name_at hm, check_name_at ht', tgW, h0, h1, hc, C.ins, hln, fldOf, getW, k1, k2, f1, f1', k16, hcs, hcu, hcle, hles, set1_ek fe, fits2', Nat.reduceLT, el1, el]
    · by_cases k2 : s ∈ nodes ++ [node]
      · skip
        have eg : grown nodes node (some s) = (nodes ++ [node]) := by
          show grow1 (grow1 nodes node) s = _
          unfold grow1
          rw [if_neg k1, if_pos k2]
        rw [eg]
        have el1 : (nodes ++ [node]).length = nodes.length + 1 := by simp
        have el : ((nodes ++ [node])).length = nodes.length + 1 := by simp
        rw [el]
        refine ⟨fun k16 => ⟨[GO.lst (List.replicate node.cps.size (W.bl true)), GO.lst (List.replicate name.cps.size (W.bl true)), GO.lst ((nodes ++ [node]).map W.str), GO.lst (List.replicate s.cps.size (W.bl true))], ?_⟩, fun k16 => ⟨[GO.lst (List.replicate node.cps.size (W.bl true)), GO.lst (List.replicate name.cps.size (W.bl true)), GO.lst ((nodes ++ [node]).map W.str), GO.lst (List.replicate s.cps.size (W.bl true))], rfl, ?_⟩⟩
        · unfold f_Chart_setitem m_Chart_setitem
          simp only [bind_ok, bind_ex, fl_ok, fl_ex, sq_nx, sq_rt, sq_ex, sq_bk, sq_ct, br_t, br_f, e_var0, e_varS, e_c, e_bin, a_nil, a_cons, e_fn, e_tup, e_lst, asB_bl, t_val, asT_bl, t_tru, t_not, t_and, t_or, e_if, e_and, e_or, e_not, e_chain, e_fld, e_meth, e_con, e_bm, e_star, s_seq, s_drop, s_ret, s_if, s_next, s_retN, s_asg, g_nm, g_sub, s_raise, fn_w, out_rt, out_nx, out_ex, set0, setS, lt_ii, le_ii, gt_ii, ge_ii, sub_ii, add_ii, int_i, eq_ii, ne_ii, sub_ref, sub1_lst, ixSeq0, ixSeq1, ixSeq2, ixSeq3, set_ref, set1_1, set1_2, set1_3, startW, List.map_cons, List.map_nil, List.length_cons, List.length_nil, List.replicate_succ, List.replicate_zero, List.cons_append, List.nil_append, Nat.reduceAdd, Nat.reduceSub, Nat.add_sub_cancel, decide_true, decide_false, Bool.not_true, Bool.not_false, s_fld, ins_ref, List.append_assoc, app_get0, app_getk, app_set0, app_setk, List.getElem?_cons_zero, ins1_ins, fld1_some, putW, e_dict0, List.length_append, List.set_cons_zero, List.set_cons_succ, List.getElem?_cons_succ, Nat.reduceLT, Nat.reduceEqDiff, ↓reduceIte, Nat.zero_ne_one, Nat.one_ne_zero, g_tup2, app_ref, app1_lst, ty_ref, isL_lst, list_ref, list1_lst, not_non, not_str, Nat.zero_add, nin_ref, nin1_strs, snoc_get, len_ref1, len1_lst, List.length_map, check_name_at hn, check_name_at hm, check_name_at ht', tgW, h0, h1, hc, C.ins, hln, fldOf, getW, k1, k2, f1, f1', k16, el1, el]
          rfl
        · unfold f_Chart_setitem m_Chart_setitem
          simp only [bind_ok, bind_ex, fl_ok, fl_ex, sq_nx, sq_rt, sq_ex, sq_bk, sq_ct, br_t, br_f, e_var0, e_varS, e_c, e_bin, a_nil, a_cons, e_fn, e_tup, e_lst, asB_bl, t_val, asT_bl, t_tru, t_not, t_and, t_or, e_if, e_and, e_or, e_not, e_chain, e_fld, e_meth, e_con, e_bm, e_star, s_seq, s_drop, s_ret, s_if, s_next, s_retN, s_asg, g_nm, g_sub, s_raise, fn_w, out_rt, out_nx, out_ex, set0, setS, lt_ii, le_ii, gt_ii, ge_ii, sub_ii, add_ii, int_i, eq_ii, ne_ii, sub_ref, sub1_lst, ixSeq0, ixSeq1, ixSeq2, ixSeq3, set_ref, set1_1, set1_2, set1_3, startW, List.map_cons, List.map_nil, List.length_cons, List.length_nil, List.replicate_succ, List.replicate_zero, List.cons_append, List.nil_append, Nat.reduceAdd, Nat.reduceSub, Nat.add_sub_cancel, decide_true, decide_false, Bool.not_true, Bool.not_false, s_fld, ins_ref, List.append_assoc, app_get0, app_getk, app_set0, app_setk, List.getElem?_cons_zero, ins1_ins, fld1_some, putW, e_dict0, List.length_append, List.set_cons_zero, List.set_cons_succ, List.getElem?_cons_succ, Nat.reduceLT, Nat.reduceEqDiff, ↓reduceIte, Nat.zero_ne_one, Nat.one_ne_zero, g_tup2, app_ref, app1_lst, ty_ref, isL_lst, list_ref, list1_lst, not_non, not_str, Nat.zero_add, nin_ref, nin1_strs, snoc_get, len_ref1, len1_lst, List.length_map, check_name_at hn, check_name_at hm, check_name_at ht', tgW, h0, h1, hc, C.ins, hln, fldOf, getW, k1, k2, f1, f1', k16, hcs, hcu, hcle, hles, set1_ek fe, fits2', Nat.reduceLT, el1, el]
      · skip
        have eg : grown nodes node (some s) = ((nodes ++ [node]) ++ [s]) := by
          show grow1 (grow1 nodes node) s = _
          unfold grow1
          rw [if_neg k1, if_neg k2]
        rw [eg]
        have el1 : (nodes ++ [node]).length = nodes.length + 1 := by simp
        have el : (((nodes ++ [node]) ++ [s])).length = nodes.length + 1 + 1 := by simp
        rw [el]
        refine ⟨fun k16 => ⟨[GO.lst (List.replicate node.cps.size (W.bl true)), GO.lst (List.replicate name.cps.size (W.bl true)), GO.lst (((nodes ++ [node]) ++ [s]).map W.str), GO.lst (List.replicate s.cps.size (W.bl true))], ?_⟩, fun k16 => ⟨[GO.lst (List.replicate node.cps.size (W.bl true)), GO.lst (List.replicate name.cps.size (W.bl true)), GO.lst (((nodes ++ [node]) ++ [s]).map W.str), GO.lst (List.replicate s.cps.size (W.bl true))], rfl, ?_⟩⟩
        · unfold f_Chart_setitem m_Chart_setitem
          simp only [bind_ok, bind_ex, fl_ok, fl_ex, sq_nx, sq_rt, sq_ex, sq_bk, sq_ct, br_t, br_f, e_var0, e_varS, e_c, e_bin, a_nil, a_cons, e_fn, e_tup, e_lst, asB_bl, t_val, asT_bl, t_tru, t_not, t_and, t_or, e_if, e_and, e_or, e_not, e_chain, e_fld, e_meth, e_con, e_bm, e_star, s_seq, s_drop, s_ret, s_if, s_next, s_retN, s_asg, g_nm, g_sub, s_raise, fn_w, out_rt, out_nx, out_ex, set0, setS, lt_ii, le_ii, gt_ii, ge_ii, sub_ii, add_ii, int_i, eq_ii, ne_ii, sub_ref, sub1_lst, ixSeq0, ixSeq1, ixSeq2, ixSeq3, set_ref, set1_1, set1_2, set1_3, startW, List.map_cons, List.map_nil, List.length_cons, List.length_nil, List.replicate_succ, List.replicate_zero, List.cons_append, List.nil_append, Nat.reduceAdd, Nat.reduceSub, Nat.add_sub_cancel, decide_true, decide_false, Bool.not_true, Bool.not_false, s_fld, ins_ref, List.append_assoc, app_get0, app_getk, app_set0, app_setk, List.getElem?_cons_zero, ins1_ins, fld1_some, putW, e_dict0, List.length_append, List.set_cons_zero, List.set_cons_succ, List.getElem?_cons_succ, Nat.reduceLT, Nat.reduceEqDiff, ↓reduceIte, Nat.zero_ne_one, Nat.one_ne_zero, g_tup2, app_ref, app1_lst, ty_ref, isL_lst, list_ref, list1_lst, not_non, not_str, Nat.zero_add, nin_ref, nin1_strs, snoc_get, len_ref1, len1_lst, List.length_map, check_name_at hn, check_name_at hm, check_name_at ht', tgW, h0, h1, hc, C.ins, hln, fldOf, getW, k1, k2, f1, f1', k16, el1, el]
          rfl
        · unfold f_Chart_setitem m_Chart_setitem
          simp only [bind_ok, bind_ex, fl_ok, fl_ex, sq_nx, sq_rt, sq_ex, sq_bk, sq_ct, br_t, br_f, e_var0, e_varS, e_c, e_bin, a_nil, a_cons, e_fn, e_tup, e_lst, asB_bl, t_val, asT_bl, t_tru, t_not, t_and, t_or, e_if, e_and, e_or, e_not, e_chain, e_fld, e_meth, e_con, e_bm, e_star, s_seq, s_drop, s_ret, s_if, s_next, s_retN, s_asg, g_nm, g_sub, s_raise, fn_w, out_rt, out_nx, out_ex, set0, setS, lt_ii, le_ii, gt_ii, ge_ii, sub_ii, add_ii, int_i, eq_ii, ne_ii, sub_ref, sub1_lst, ixSeq0, ixSeq1, ixSeq2, ixSeq3, set_ref, set1_1, set1_2, set1_3, startW, List.map_cons, List.map_nil, List.length_cons, List.length_nil, List.replicate_succ, List.replicate_zero, List.cons_append, List.nil_append, Nat.reduceAdd, Nat.reduceSub, Nat.add_sub_cancel, decide_true, decide_false, Bool.not_true, Bool.not_false, s_fld, ins_ref, List.append_assoc, app_get0, app_getk, app_set0, app_setk, List.getElem?_cons_zero, ins1_ins, fld1_some, putW, e_dict0, List.length_append, List.set_cons_zero, List.set_cons_succ, List.getElem?_cons_succ, Nat.reduceLT, Nat.reduceEqDiff, ↓reduceIte, Nat.zero_ne_one, Nat.one_ne_zero, g_tup2, app_ref, app1_lst, ty_ref, isL_lst, list_ref, list1_lst, not_non, not_str, Nat.zero_add, nin_ref, nin1_strs, snoc_get, len_ref1, len1_lst, List.length_map, check_name_at hn, check_name_at hm, check_name_at ht', tgW, h0, h1, hc, C.ins, hln, fldOf, getW, k1, k2, f1, f1', k16, hcs, hcu, hcle, hles, set1_ek fe, fits2', Nat.reduceLT, el1, el]
end Q
end WL
end
section
set_option maxRecDepth 100000
set_option maxHeartbeats 1000000
namespace WL
namespace Q
open PySem PySem.Spec L2
open PyProof.Rows hiding St
set_option autoImplicit true
section
variable {g : G} {c ln le : Nat} {wide out : Int} {start node : Str} {nodes : List Str} {edges : List (List Key × W)}
theorem nin_dT {l : Nat} {kvs : List (List Key × W)} (h : g[l]? = some (GO.dT kvs)) : notinF [] (.tup [.str node, .int out]) (.ref l) g = Out.ok (.bl (!(getK (ek node out) kvs).isSome)) g := by
  have e : keysW (.tup [.str node, .int out]) = some (ek node out) := rfl
  unfold notinF inW
  dsimp only
  simp only [seqAt, listAt, dictGet, h, e, Option.map_some, negW]
  cases getK (ek node out) kvs <;> rfl
theorem in_dT {l : Nat} {kvs : List (List Key × W)} (h : g[l]? = some (GO.dT kvs)) : inF [] (.tup [.str node, .int out]) (.ref l) g = Out.ok (.bl (getK (ek node out) kvs).isSome) g := by
  have e : keysW (.tup [.str node, .int out]) = some (ek node out) := rfl
  unfold inF inW
  dsimp only
  simp only [seqAt, listAt, dictGet, h, e, Option.map_some, negW]
  cases getK (ek node out) kvs <;> rfl
theorem sub_dT {d : Disp} {l : Nat} {kvs : List (List Key × W)} {w : W} (h : g[l]? = some (GO.dT kvs)) (hk : getK (ek node out) kvs = some w) : subW d (.ref l) (.tup [.str node, .int out]) g = Out.ok w g := by
  have e : keysW (.tup [.str node, .int out]) = some (ek node out) := rfl
  rw [sub_ref, h]
  simp only [sub1, e, hk]
theorem get_at {w : W} (C : ChartAt g c ln le wide start nodes edges) (hn : node ∈ nodes) (h0 : 0 ≤ out) (h1 : out < wide) (hk : getK (ek node out) edges = some w) : f_Chart_getitem [.ref c, .tup [.str node, .int out]] g = Out.ok w g := by
  unfold f_Chart_getitem m_Chart_getitem
  simp only [bind_ok, bind_ex, fl_ok, fl_ex, sq_nx, sq_rt, sq_ex, sq_bk, sq_ct, br_t, br_f, e_var0, e_varS, e_c, e_bin, a_nil, a_cons, e_fn, e_tup, e_lst, asB_bl, t_val, asT_bl, t_tru, t_not, t_and, t_or, e_if, e_and, e_or, e_not, e_chain, e_fld, e_meth, e_con, e_bm, e_star, s_seq, s_drop, s_ret, s_if, s_next, s_retN, s_asg, g_nm, g_sub, s_raise, fn_w, out_rt, out_nx, out_ex, set0, setS, lt_ii, le_ii, gt_ii, ge_ii, sub_ii, add_ii, int_i, eq_ii, ne_ii, sub_ref, sub1_lst, ixSeq0, ixSeq1, ixSeq2, ixSeq3, set_ref, set1_1, set1_2, set1_3, startW, List.map_cons, List.map_nil, List.length_cons, List.length_nil, List.replicate_succ, List.replicate_zero, List.cons_append, List.nil_append, Nat.reduceAdd, Nat.reduceSub, Nat.add_sub_cancel, decide_true, decide_false, Bool.not_true, Bool.not_false, s_fld, ins_ref, List.append_assoc, app_get0, app_getk, app_set0, app_setk, List.getElem?_cons_zero, ins1_ins, fld1_some, putW, e_dict0, List.length_append, List.set_cons_zero, List.set_cons_succ, List.getElem?_cons_succ, Nat.reduceLT, Nat.reduceEqDiff, ↓reduceIte, Nat.zero_ne_one, Nat.one_ne_zero, g_tup2, app_ref, app1_lst, ty_ref, isL_lst, list_ref, list1_lst, not_non, not_str, Nat.zero_add, nin_ref, nin1_strs, snoc_get, len_ref1, len1_lst, List.length_map, C.ins, C.nodes, fldOf, getW, hn, h0, h1, fits2', nin_dT C.edges, hk, Option.isSome_some, sub_dT C.edges hk]
theorem get_no (C : ChartAt g c ln le wide start nodes edges) (hn : node ∈ nodes) (h0 : 0 ≤ out) (h1 : out < wide) (hk : getK (ek node out) edges = none) : f_Chart_getitem [.ref c, .tup [.str node, .int out]] g = Out.ex 4 [(5, .int out), (6, .str node)] g := by
  unfold f_Chart_getitem m_Chart_getitem
  simp only [bind_ok, bind_ex, fl_ok, fl_ex, sq_nx, sq_rt, sq_ex, sq_bk, sq_ct, br_t, br_f, e_var0, e_varS, e_c, e_bin, a_nil, a_cons, e_fn, e_tup, e_lst, asB_bl, t_val, asT_bl, t_tru, t_not, t_and, t_or, e_if, e_and, e_or, e_not, e_chain, e_fld, e_meth, e_con, e_bm, e_star, s_seq, s_drop, s_ret, s_if, s_next, s_retN, s_asg, g_nm, g_sub, s_raise, fn_w, out_rt, out_nx, out_ex, set0, setS, lt_ii, le_ii, gt_ii, ge_ii, sub_ii, add_ii, int_i, eq_ii, ne_ii, sub_ref, sub1_lst, ixSeq0, ixSeq1, ixSeq2, ixSeq3, set_ref, set1_1, set1_2, set1_3, startW, List.map_cons, List.map_nil, List.length_cons, List.length_nil, List.replicate_succ, List.replicate_zero, List.cons_append, List.nil_append, Nat.reduceAdd, Nat.reduceSub, Nat.add_sub_cancel, decide_true, decide_false, Bool.not_true, Bool.not_false, s_fld, ins_ref, List.append_assoc, app_get0, app_getk, app_set0, app_setk, List.getElem?_cons_zero, ins1_ins, fld1_some, putW, e_dict0, List.length_append, List.set_cons_zero, List.set_cons_succ, List.getElem?_cons_succ, Nat.reduceLT, Nat.reduceEqDiff, ↓reduceIte, Nat.zero_ne_one, Nat.one_ne_zero, g_tup2, app_ref, app1_lst, ty_ref, isL_lst, list_ref, list1_lst, not_non, not_str, Nat.zero_add, nin_ref, nin1_strs, snoc_get, len_ref1, len1_lst, List.length_map, C.ins, C.nodes, fldOf, getW, hn, h0, h1, fits2', nin_dT C.edges, hk, Option.isSome_none]
  rfl
theorem get_strange (C : ChartAt g c ln le wide start nodes edges) (hn : node ∉ nodes) : f_Chart_getitem [.ref c, .tup [.str node, .int out]] g = Out.ex 3 [(6, .str node)] g := by
  unfold f_Chart_getitem m_Chart_getitem
  simp only [bind_ok, bind_ex, fl_ok, fl_ex, sq_nx, sq_rt, sq_ex, sq_bk, sq_ct, br_t, br_f, e_var0, e_varS, e_c, e_bin, a_nil, a_cons, e_fn, e_tup, e_lst, asB_bl, t_val, asT_bl, t_tru, t_not, t_and, t_or, e_if, e_and, e_or, e_not, e_chain, e_fld, e_meth, e_con, e_bm, e_star, s_seq, s_drop, s_ret, s_if, s_next, s_retN, s_asg, g_nm, g_sub, s_raise, fn_w, out_rt, out_nx, out_ex, set0, setS, lt_ii, le_ii, gt_ii, ge_ii, sub_ii, add_ii, int_i, eq_ii, ne_ii, sub_ref, sub1_lst, ixSeq0, ixSeq1, ixSeq2, ixSeq3, set_ref, set1_1, set1_2, set1_3, startW, List.map_cons, List.map_nil, List.length_cons, List.length_nil, List.replicate_succ, List.replicate_zero, List.cons_append, List.nil_append, Nat.reduceAdd, Nat.reduceSub, Nat.add_sub_cancel, decide_true, decide_false, Bool.not_true, Bool.not_false, s_fld, ins_ref, List.append_assoc, app_get0, app_getk, app_set0, app_setk, List.getElem?_cons_zero, ins1_ins, fld1_some, putW, e_dict0, List.length_append, List.set_cons_zero, List.set_cons_succ, List.getElem?_cons_succ, Nat.reduceLT, Nat.reduceEqDiff, ↓reduceIte, Nat.zero_ne_one, Nat.one_ne_zero, g_tup2, app_ref, app1_lst, ty_ref, isL_lst, list_ref, list1_lst, not_non, not_str, Nat.zero_add, nin_ref, nin1_strs, snoc_get, len_ref1, len1_lst, List.length_map, C.ins, C.nodes, fldOf, getW, hn]
  rfl
theorem step_at {w : W} (C : ChartAt g c ln le wide start nodes edges) (hn : node ∈ nodes) (h0 : 0 ≤ out) (h1 : out < wide) (hk : getK (ek node out) edges = some w) : f_Chart_step [.ref c, .str node, .int out] g = Out.ok w g := by
  unfold f_Chart_step m_Chart_step
  have e : F_Chart_getitem [.ref c, .tup [.str node, .int out]] g = Out.ok w g := get_at C hn h0 h1 hk
  simp only [bind_ok, bind_ex, fl_ok, fl_ex, sq_nx, sq_rt, sq_ex, sq_bk, sq_ct, br_t, br_f, e_var0, e_varS, e_c, e_bin, a_nil, a_cons, e_fn, e_tup, e_lst, asB_bl, t_val, asT_bl, t_tru, t_not, t_and, t_or, e_if, e_and, e_or, e_not, e_chain, e_fld, e_meth, e_con, e_bm, e_star, s_seq, s_drop, s_ret, s_if, s_next, s_retN, s_asg, g_nm, g_sub, s_raise, fn_w, out_rt, out_nx, out_ex, set0, setS, lt_ii, le_ii, gt_ii, ge_ii, sub_ii, add_ii, int_i, eq_ii, ne_ii, sub_ref, sub1_lst, ixSeq0, ixSeq1, ixSeq2, ixSeq3, set_ref, set1_1, set1_2, set1_3, startW, List.map_cons, List.map_nil, List.length_cons, List.length_nil, List.replicate_succ, List.replicate_zero, List.cons_append, List.nil_append, Nat.reduceAdd, Nat.reduceSub, Nat.add_sub_cancel, decide_true, decide_false, Bool.not_true, Bool.not_false, s_fld, ins_ref, List.append_assoc, app_get0, app_getk, app_set0, app_setk, List.getElem?_cons_zero, ins1_ins, fld1_some, putW, e_dict0, List.length_append, List.set_cons_zero, List.set_cons_succ, List.getElem?_cons_succ, Nat.reduceLT, Nat.reduceEqDiff, ↓reduceIte, Nat.zero_ne_one, Nat.one_ne_zero, g_tup2, app_ref, app1_lst, ty_ref, isL_lst, list_ref, list1_lst, not_non, not_str, Nat.zero_add, nin_ref, nin1_strs, snoc_get, len_ref1, len1_lst, List.length_map, fits2', C.ins, sub1_ins, getD, e]
theorem contains_at {s : Str} (C : ChartAt g c ln le wide start nodes edges) : f_Chart_contains [.ref c, .str s] g = Out.ok (.bl (decide (s ∈ nodes))) g := by
  unfold f_Chart_contains m_Chart_contains
  simp only [bind_ok, bind_ex, fl_ok, fl_ex, sq_nx, sq_rt, sq_ex, sq_bk, sq_ct, br_t, br_f, e_var0, e_varS, e_c, e_bin, a_nil, a_cons, e_fn, e_tup, e_lst, asB_bl, t_val, asT_bl, t_tru, t_not, t_and, t_or, e_if, e_and, e_or, e_not, e_chain, e_fld, e_meth, e_con, e_bm, e_star, s_seq, s_drop, s_ret, s_if, s_next, s_retN, s_asg, g_nm, g_sub, s_raise, fn_w, out_rt, out_nx, out_ex, set0, setS, lt_ii, le_ii, gt_ii, ge_ii, sub_ii, add_ii, int_i, eq_ii, ne_ii, sub_ref, sub1_lst, ixSeq0, ixSeq1, ixSeq2, ixSeq3, set_ref, set1_1, set1_2, set1_3, startW, List.map_cons, List.map_nil, List.length_cons, List.length_nil, List.replicate_succ, List.replicate_zero, List.cons_append, List.nil_append, Nat.reduceAdd, Nat.reduceSub, Nat.add_sub_cancel, decide_true, decide_false, Bool.not_true, Bool.not_false, s_fld, ins_ref, List.append_assoc, app_get0, app_getk, app_set0, app_setk, List.getElem?_cons_zero, ins1_ins, fld1_some, putW, e_dict0, List.length_append, List.set_cons_zero, List.set_cons_succ, List.getElem?_cons_succ, Nat.reduceLT, Nat.reduceEqDiff, ↓reduceIte, Nat.zero_ne_one, Nat.one_ne_zero, g_tup2, app_ref, app1_lst, ty_ref, isL_lst, list_ref, list1_lst, not_non, not_str, Nat.zero_add, nin_ref, nin1_strs, snoc_get, len_ref1, len1_lst, List.length_map, C.ins, fldOf, getW, in_lst C.nodes]
theorem len_at (C : ChartAt g c ln le wide start nodes edges) : f_Chart_len [.ref c] g = Out.ok (.int nodes.length) g := by
  unfold f_Chart_len m_Chart_len
  simp only [bind_ok, bind_ex, fl_ok, fl_ex, sq_nx, sq_rt, sq_ex, sq_bk, sq_ct, br_t, br_f, e_var0, e_varS, e_c, e_bin, a_nil, a_cons, e_fn, e_tup, e_lst, asB_bl, t_val, asT_bl, t_tru, t_not, t_and, t_or, e_if, e_and, e_or, e_not, e_chain, e_fld, e_meth, e_con, e_bm, e_star, s_seq, s_drop, s_ret, s_if, s_next, s_retN, s_asg, g_nm, g_sub, s_raise, fn_w, out_rt, out_nx, out_ex, set0, setS, lt_ii, le_ii, gt_ii, ge_ii, sub_ii, add_ii, int_i, eq_ii, ne_ii, sub_ref, sub1_lst, ixSeq0, ixSeq1, ixSeq2, ixSeq3, set_ref, set1_1, set1_2, set1_3, startW, List.map_cons, List.map_nil, List.length_cons, List.length_nil, List.replicate_succ, List.replicate_zero, List.cons_append, List.nil_append, Nat.reduceAdd, Nat.reduceSub, Nat.add_sub_cancel, decide_true, decide_false, Bool.not_true, Bool.not_false, s_fld, ins_ref, List.append_assoc, app_get0, app_getk, app_set0, app_setk, List.getElem?_cons_zero, ins1_ins, fld1_some, putW, e_dict0, List.length_append, List.set_cons_zero, List.set_cons_succ, List.getElem?_cons_succ, Nat.reduceLT, Nat.reduceEqDiff, ↓reduceIte, Nat.zero_ne_one, Nat.one_ne_zero, g_tup2, app_ref, app1_lst, ty_ref, isL_lst, list_ref, list1_lst, not_non, not_str, Nat.zero_add, nin_ref, nin1_strs, snoc_get, len_ref1, len1_lst, List.length_map, C.ins, C.nodes, fldOf, getW]
theorem start_at (C : ChartAt g c ln le wide start nodes edges) : f_Chart_start [.ref c] g = Out.ok (.str start) g := by
  unfold f_Chart_start m_Chart_start
  simp only [bind_ok, bind_ex, fl_ok, fl_ex, sq_nx, sq_rt, sq_ex, sq_bk, sq_ct, br_t, br_f, e_var0, e_varS, e_c, e_bin, a_nil, a_cons, e_fn, e_tup, e_lst, asB_bl, t_val, asT_bl, t_tru, t_not, t_and, t_or, e_if, e_and, e_or, e_not, e_chain, e_fld, e_meth, e_con, e_bm, e_star, s_seq, s_drop, s_ret, s_if, s_next, s_retN, s_asg, g_nm, g_sub, s_raise, fn_w, out_rt, out_nx, out_ex, set0, setS, lt_ii, le_ii, gt_ii, ge_ii, sub_ii, add_ii, int_i, eq_ii, ne_ii, sub_ref, sub1_lst, ixSeq0, ixSeq1, ixSeq2, ixSeq3, set_ref, set1_1, set1_2, set1_3, startW, List.map_cons, List.map_nil, List.length_cons, List.length_nil, List.replicate_succ, List.replicate_zero, List.cons_append, List.nil_append, Nat.reduceAdd, Nat.reduceSub, Nat.add_sub_cancel, decide_true, decide_false, Bool.not_true, Bool.not_false, s_fld, ins_ref, List.append_assoc, app_get0, app_getk, app_set0, app_setk, List.getElem?_cons_zero, ins1_ins, fld1_some, putW, e_dict0, List.length_append, List.set_cons_zero, List.set_cons_succ, List.getElem?_cons_succ, Nat.reduceLT, Nat.reduceEqDiff, ↓reduceIte, Nat.zero_ne_one, Nat.one_ne_zero, g_tup2, app_ref, app1_lst, ty_ref, isL_lst, list_ref, list1_lst, not_non, not_str, Nat.zero_add, nin_ref, nin1_strs, snoc_get, len_ref1, len1_lst, List.length_map, C.ins, fldOf, getW]
theorem begin_at (C : ChartAt g c ln le wide start nodes edges) : f_Chart_begin [.ref c] g = Out.ok (.str start) g := by
  unfold f_Chart_begin m_Chart_begin
  simp only [bind_ok, bind_ex, fl_ok, fl_ex, sq_nx, sq_rt, sq_ex, sq_bk, sq_ct, br_t, br_f, e_var0, e_varS, e_c, e_bin, a_nil, a_cons, e_fn, e_tup, e_lst, asB_bl, t_val, asT_bl, t_tru, t_not, t_and, t_or, e_if, e_and, e_or, e_not, e_chain, e_fld, e_meth, e_con, e_bm, e_star, s_seq, s_drop, s_ret, s_if, s_next, s_retN, s_asg, g_nm, g_sub, s_raise, fn_w, out_rt, out_nx, out_ex, set0, setS, lt_ii, le_ii, gt_ii, ge_ii, sub_ii, add_ii, int_i, eq_ii, ne_ii, sub_ref, sub1_lst, ixSeq0, ixSeq1, ixSeq2, ixSeq3, set_ref, set1_1, set1_2, set1_3, startW, List.map_cons, List.map_nil, List.length_cons, List.length_nil, List.replicate_succ, List.replicate_zero, List.cons_append, List.nil_append, Nat.reduceAdd, Nat.reduceSub, Nat.add_sub_cancel, decide_true, decide_false, Bool.not_true, Bool.not_false, s_fld, ins_ref, List.append_assoc, app_get0, app_getk, app_set0, app_setk, List.getElem?_cons_zero, ins1_ins, fld1_some, putW, e_dict0, List.length_append, List.set_cons_zero, List.set_cons_succ, List.getElem?_cons_succ, Nat.reduceLT, Nat.reduceEqDiff, ↓reduceIte, Nat.zero_ne_one, Nat.one_ne_zero, g_tup2, app_ref, app1_lst, ty_ref, isL_lst, list_ref, list1_lst, not_non, not_str, Nat.zero_add, nin_ref, nin1_strs, snoc_get, len_ref1, len1_lst, List.length_map, C.ins, fldOf, getW]
end
end Q
end WL
end
section
set_option maxRecDepth 100000
set_option maxHeartbeats 1000000
namespace WL
namespace Q
open PySem PySem.Spec L2
open PyProof.Rows hiding St
set_option autoImplicit true
theorem lc2_flat {J : Items} {tg : GD} {i1 : ID} {tg1 : GD} {tt1 : TD} {te : ED} {own vs1 : List Nat} {σ : Sg} {g1 : G} {out : W → List W} (hJ : StillAt J g1) (ws : List W) : ∀ (acc : List W),
    (∀ w ∈ ws, ∀ acc : List W, ∃ σ2 J1, tg w (wipeW σ own) (g1 ++ [GO.lst acc]) = Out.ok σ2 (g1 ++ [GO.lst acc]) ∧ i1 σ2 (g1 ++ [GO.lst acc]) = Out.ok J1 (g1 ++ [GO.lst acc]) ∧ (acc.length + J1.ws.length ≤ 1000000 → lcGo J1 tg1 tt1 te vs1 σ2 g1.length J1.ws (g1 ++ [GO.lst acc]) = Out.ok () (g1 ++ [GO.lst (acc ++ out w)])) ∧ J1.ws.length ≤ 1000 ∧ (out w).length ≤ 1000) →
    acc.length + ws.length * 1000 ≤ 900000 →
    lc2Go J tg tYesW i1 tg1 tt1 te own vs1 σ g1.length ws (g1 ++ [GO.lst acc]) = Out.ok () (g1 ++ [GO.lst (acc ++ ws.flatMap out)]) := by
  induction ws with
  | nil =>
    intro acc h hl
    unfold lc2Go
    rw [if_pos (still_app hJ)]
    simp
  | cons w ws ih =>
    intro acc h hl
    obtain ⟨σ2, J1, h1, h2, h3, h4, h5⟩ := h w List.mem_cons_self acc
    have hl' : acc.length + (ws.length * 1000 + 1000) ≤ 900000 := by
      rw [List.length_cons, Nat.add_mul] at hl
      omega
    unfold lc2Go
    rw [if_pos (still_app hJ), h1]
    dsimp only
    have ht : tYesW σ2 (g1 ++ [GO.lst acc]) = Out.ok true (g1 ++ [GO.lst acc]) := rfl
    rw [ht]
    dsimp only
    rw [h2]
    dsimp only
    rw [h3 (by omega)]
    dsimp only
    rw [ih (acc ++ out w) (fun w hw => h w (List.mem_cons_of_mem _ hw)) (by rw [List.length_append]; omega), List.flatMap_cons, List.append_assoc]
theorem e_lc2 {i i1 : ID} {tg tg1 : GD} {tt tt1 : TD} {te : ED} {own vs1 : List Nat} {σ : Sg} {g : G} : eLc2 i tg tt i1 tg1 tt1 te own vs1 σ g = (i σ g).bind fun J g1 => match lc2Go J tg tt i1 tg1 tt1 te own vs1 σ g1.length J.ws (g1 ++ [GO.lst []]) with
  | .ok _ g2 => .ok (.ref g1.length) g2
  | _ => .bad := rfl
theorem i_seq {a : ED} {σ : Sg} {g : G} : iSeq a σ g = (a σ g).bind fun w g => match itemsOf g w with
  | some L => .ok L g
  | none => .bad := rfl
theorem items_ref {g : G} {l : Nat} {ws : List W} (h : g[l]? = some (GO.lst ws)) : itemsOf g (.ref l) = some ⟨ws, some l⟩ := by
  simp [itemsOf, h]
/-- what the table says of a node's outcomes -/
def edgeW (edges : List (List Key × W)) (s : Str) (k : Nat) : Option W := getK (ek s (k : Int)) edges
def tupOf (w : W) : List W := match w with
  | .tup ws => ws
  | _ => []
/-- the edges of a node, in order -/
def outE (wide : Nat) (edges : List (List Key × W)) (s : Str) : List W := ((List.range wide).filter fun k => (edgeW edges s k).isSome).map fun (k : Nat) => W.tup (W.str s :: W.int (k : Int) :: tupOf ((edgeW edges s k).getD .non))
def outM (wide : Nat) (edges : List (List Key × W)) (s : Str) : List W := ((List.range wide).filter fun k => !(edgeW edges s k).isSome).map fun (k : Nat) => W.tup [W.str s, W.int (k : Int)]
def edgesL (wide : Nat) (nodes : List Str) (edges : List (List Key × W)) : List W := nodes.flatMap (outE wide edges)
def missL (wide : Nat) (nodes : List Str) (edges : List (List Key × W)) : List W := nodes.flatMap (outM wide edges)
theorem small_nat {n : Nat} (h : n ≤ 1000) : small62 (n : Int) = true := by
  have h2 : (n : Int) < 1001 := by omega
  have h3 : (1001 : Int) ≤ 2 ^ 62 := by decide
  have h4 : -((2 : Int) ^ 62) ≤ 0 := by decide
  have h5 : (0 : Int) ≤ (n : Int) := by omega
  exact decide_eq_true ⟨Int.le_trans h4 h5, Int.lt_of_lt_of_le h2 h3⟩
section
variable {g : G} {c ln le wide : Nat} {start : Str} {nodes : List Str} {edges : List (List Key × W)}
theorem missing_at (C : ChartAt g c ln le (wide : Int) start nodes edges) (hw : wide ≤ 4) (hl : nodes.length ≤ 100) : f_Chart_missing [.ref c] g = Out.ok (.ref g.length) (g ++ [GO.lst (missL wide nodes edges)]) := by
  have hln : ∀ e, (g ++ e)[ln]? = some (GO.lst (nodes.map W.str)) := fun e => app_old C.nodes
  have hc : ∀ e, (g ++ e)[c]? = some (GO.ins 0 [(0, .int wide), (1, .str start), (2, .ref ln), (3, .ref le)]) := fun e => app_old C.ins
  have key := lc2_flat (J := ⟨nodes.map W.str, some ln⟩) (tg := gNm 1) (i1 := iRange1 (aCons (eFld 0 (eVar 0)) aNil)) (tg1 := gNm 2) (tt1 := tVal (eBin (notinF []) (eTup (aCons (eVar 1) (aCons (eVar 2) aNil))) (eFld 3 (eVar 0)))) (te := Chart_missing_le0) (own := [1, 2]) (vs1 := [2]) (σ := [some (.ref c), none, none]) (g1 := g)
    (out := fun w => match w with | .str s => outM wide edges s | _ => []) C.nodes (nodes.map W.str) [] (fun w hw' acc => by
      obtain ⟨s, hs, rfl⟩ := List.mem_map.mp hw'
      refine ⟨[some (.ref c), some (.str s), none], rangeI 0 wide, rfl, ?_, ?_, ?_, ?_⟩
      · simp only [bind_ok, bind_ex, fl_ok, fl_ex, sq_nx, sq_rt, sq_ex, sq_bk, sq_ct, br_t, br_f, e_var0, e_varS, e_c, e_bin, a_nil, a_cons, e_fn, e_tup, e_lst, asB_bl, t_val, asT_bl, t_tru, t_not, t_and, t_or, e_if, e_and, e_or, e_not, e_chain, e_fld, e_meth, e_con, e_bm, e_star, s_seq, s_drop, s_ret, s_if, s_next, s_retN, s_asg, g_nm, g_sub, s_raise, fn_w, out_rt, out_nx, out_ex, set0, setS, lt_ii, le_ii, gt_ii, ge_ii, sub_ii, add_ii, int_i, eq_ii, ne_ii, sub_ref, sub1_lst, ixSeq0, ixSeq1, ixSeq2, ixSeq3, set_ref, set1_1, set1_2, set1_3, startW, List.map_cons, List.map_nil, List.length_cons, List.length_nil, List.replicate_succ, List.replicate_zero, List.cons_append, List.nil_append, Nat.reduceAdd, Nat.reduceSub, Nat.add_sub_cancel, decide_true, decide_false, Bool.not_true, Bool.not_false, s_fld, ins_ref, List.append_assoc, app_get0, app_getk, app_set0, app_setk, List.getElem?_cons_zero, ins1_ins, fld1_some, putW, e_dict0, List.length_append, List.set_cons_zero, List.set_cons_succ, List.getElem?_cons_succ, Nat.reduceLT, Nat.reduceEqDiff, ↓reduceIte, Nat.zero_ne_one, Nat.one_ne_zero, g_tup2, app_ref, app1_lst, ty_ref, isL_lst, list_ref, list1_lst, not_non, not_str, Nat.zero_add, nin_ref, nin1_strs, snoc_get, len_ref1, len1_lst, List.length_map, i_range1, hc, fldOf, getW, small_nat (show wide ≤ 1000 by omega)]
      · intro hl2
        have lf := lc_filter (J := rangeI 0 wide) (tg := gNm 2) (tt := tVal (eBin (notinF []) (eTup (aCons (eVar 1) (aCons (eVar 2) aNil))) (eFld 3 (eVar 0)))) (te := Chart_missing_le0) (own := [2]) (σ := [some (.ref c), some (.str s), none]) (g1 := g)
          (f := fun w => W.tup [W.str s, w]) (p := fun w => match w with | .int k => !(getK (ek s k) edges).isSome | _ => false) True.intro (rangeI 0 wide).ws acc hl2 (fun w hw2 acc => by
            rw [range_ws] at hw2
            obtain ⟨k, hk, rfl⟩ := List.mem_map.mp hw2
            refine ⟨[some (.ref c), some (.str s), some (.int k)], rfl, ?_, fun _ => ?_⟩
            · simp only [bind_ok, bind_ex, fl_ok, fl_ex, sq_nx, sq_rt, sq_ex, sq_bk, sq_ct, br_t, br_f, e_var0, e_varS, e_c, e_bin, a_nil, a_cons, e_fn, e_tup, e_lst, asB_bl, t_val, asT_bl, t_tru, t_not, t_and, t_or, e_if, e_and, e_or, e_not, e_chain, e_fld, e_meth, e_con, e_bm, e_star, s_seq, s_drop, s_ret, s_if, s_next, s_retN, s_asg, g_nm, g_sub, s_raise, fn_w, out_rt, out_nx, out_ex, set0, setS, lt_ii, le_ii, gt_ii, ge_ii, sub_ii, add_ii, int_i, eq_ii, ne_ii, sub_ref, sub1_lst, ixSeq0, ixSeq1, ixSeq2, ixSeq3, set_ref, set1_1, set1_2, set1_3, startW, List.map_cons, List.map_nil, List.length_cons, List.length_nil, List.replicate_succ, List.replicate_zero, List.cons_append, List.nil_append, Nat.reduceAdd, Nat.reduceSub, Nat.add_sub_cancel, decide_true, decide_false, Bool.not_true, Bool.not_false, s_fld, ins_ref, List.append_assoc, app_get0, app_getk, app_set0, app_setk, List.getElem?_cons_zero, ins1_ins, fld1_some, putW, e_dict0, List.length_append, List.set_cons_zero, List.set_cons_succ, List.getElem?_cons_succ, Nat.reduceLT, Nat.reduceEqDiff, ↓reduceIte, Nat.zero_ne_one, Nat.one_ne_zero, g_tup2, app_ref, app1_lst, ty_ref, isL_lst, list_ref, list1_lst, not_non, not_str, Nat.zero_add, nin_ref, nin1_strs, snoc_get, len_ref1, len1_lst, List.length_map, fits2', hc, fldOf, getW, nin_dT (node := s) (out := (k : Int)) (app_old (e := [GO.lst acc]) C.edges)]
            · unfold Chart_missing_le0
              simp only [bind_ok, bind_ex, fl_ok, fl_ex, sq_nx, sq_rt, sq_ex, sq_bk, sq_ct, br_t, br_f, e_var0, e_varS, e_c, e_bin, a_nil, a_cons, e_fn, e_tup, e_lst, asB_bl, t_val, asT_bl, t_tru, t_not, t_and, t_or, e_if, e_and, e_or, e_not, e_chain, e_fld, e_meth, e_con, e_bm, e_star, s_seq, s_drop, s_ret, s_if, s_next, s_retN, s_asg, g_nm, g_sub, s_raise, fn_w, out_rt, out_nx, out_ex, set0, setS, lt_ii, le_ii, gt_ii, ge_ii, sub_ii, add_ii, int_i, eq_ii, ne_ii, sub_ref, sub1_lst, ixSeq0, ixSeq1, ixSeq2, ixSeq3, set_ref, set1_1, set1_2, set1_3, startW, List.map_cons, List.map_nil, List.length_cons, List.length_nil, List.replicate_succ, List.replicate_zero, List.cons_append, List.nil_append, Nat.reduceAdd, Nat.reduceSub, Nat.add_sub_cancel, decide_true, decide_false, Bool.not_true, Bool.not_false, s_fld, ins_ref, List.append_assoc, app_get0, app_getk, app_set0, app_setk, List.getElem?_cons_zero, ins1_ins, fld1_some, putW, e_dict0, List.length_append, List.set_cons_zero, List.set_cons_succ, List.getElem?_cons_succ, Nat.reduceLT, Nat.reduceEqDiff, ↓reduceIte, Nat.zero_ne_one, Nat.one_ne_zero, g_tup2, app_ref, app1_lst, ty_ref, isL_lst, list_ref, list1_lst, not_non, not_str, Nat.zero_add, nin_ref, nin1_strs, snoc_get, len_ref1, len1_lst, List.length_map, fits2'])
        have e : (((rangeI 0 wide).ws.filter fun w => match w with | .int k => !(getK (ek s k) edges).isSome | _ => false).map fun w => W.tup [W.str s, w]) = outM wide edges s := by
          rw [range_ws]
          unfold outM edgeW
          rw [List.filter_map, List.map_map]
          rfl
        rw [lf, e]
      · rw [range_ws]; simp; omega
      · dsimp only
        unfold outM
        rw [List.length_map]
        exact Nat.le_trans (List.length_filter_le _ _) (by simp; omega)) (by simp; omega)
  unfold f_Chart_missing m_Chart_missing
  simp only [bind_ok, bind_ex, fl_ok, fl_ex, sq_nx, sq_rt, sq_ex, sq_bk, sq_ct, br_t, br_f, e_var0, e_varS, e_c, e_bin, a_nil, a_cons, e_fn, e_tup, e_lst, asB_bl, t_val, asT_bl, t_tru, t_not, t_and, t_or, e_if, e_and, e_or, e_not, e_chain, e_fld, e_meth, e_con, e_bm, e_star, s_seq, s_drop, s_ret, s_if, s_next, s_retN, s_asg, g_nm, g_sub, s_raise, fn_w, out_rt, out_nx, out_ex, set0, setS, lt_ii, le_ii, gt_ii, ge_ii, sub_ii, add_ii, int_i, eq_ii, ne_ii, sub_ref, sub1_lst, ixSeq0, ixSeq1, ixSeq2, ixSeq3, set_ref, set1_1, set1_2, set1_3, startW, List.map_cons, List.map_nil, List.length_cons, List.length_nil, List.replicate_succ, List.replicate_zero, List.cons_append, List.nil_append, Nat.reduceAdd, Nat.reduceSub, Nat.add_sub_cancel, decide_true, decide_false, Bool.not_true, Bool.not_false, s_fld, ins_ref, List.append_assoc, app_get0, app_getk, app_set0, app_setk, List.getElem?_cons_zero, ins1_ins, fld1_some, putW, e_dict0, List.length_append, List.set_cons_zero, List.set_cons_succ, List.getElem?_cons_succ, Nat.reduceLT, Nat.reduceEqDiff, ↓reduceIte, Nat.zero_ne_one, Nat.one_ne_zero, g_tup2, app_ref, app1_lst, ty_ref, isL_lst, list_ref, list1_lst, not_non, not_str, Nat.zero_add, nin_ref, nin1_strs, snoc_get, len_ref1, len1_lst, List.length_map, e_lc2, i_seq, C.ins, fldOf, getW, items_ref C.nodes, key]
  rw [List.flatMap_map]
  rfl
end
end Q
end WL
end
section
set_option maxRecDepth 100000
set_option maxHeartbeats 1000000
namespace WL
namespace Q
open PySem PySem.Spec L2
open PyProof.Rows hiding St
set_option autoImplicit true
def Dist (l : Nat) : List (Nat × GO) → Prop
  | [] => True
  | (k, _) :: S => l ≠ k ∧ Dist l S
def Has (g : G) : List (Nat × GO) → Prop
  | [] => True
  | (l, o) :: S => g[l]? = some o ∧ Dist l S ∧ Has g S
theorem dist_nil {l : Nat} : Dist l [] = True := (rfl)
theorem dist_cons {l k : Nat} {o : GO} {S} : Dist l ((k, o) :: S) = (l ≠ k ∧ Dist l S) := (rfl)
theorem has_nil {g : G} : Has g [] = True := (rfl)
theorem has_cons {g : G} {l : Nat} {o : GO} {S} : Has g ((l, o) :: S) = (g[l]? = some o ∧ Dist l S ∧ Has g S) := (rfl)
theorem Has.nil {g : G} : Has g [] := True.intro
theorem Has.get {g : G} : ∀ {S : List (Nat × GO)} {i l : Nat} {o : GO}, Has g S → S[i]? = some (l, o) → g[l]? = some o
  | [], _, _, _, _, e => by cases e
  | (k, u) :: S, 0, _, _, h, e => by cases e; exact h.1
  | (k, u) :: S, i + 1, _, _, h, e => Has.get (i := i) h.2.2 e
theorem Dist.get {m : Nat} : ∀ {S : List (Nat × GO)} {i l : Nat} {o : GO}, Dist m S → S[i]? = some (l, o) → m ≠ l
  | [], _, _, _, _, e => by cases e
  | (k, u) :: S, 0, _, _, h, e => by cases e; exact h.1
  | (k, u) :: S, i + 1, _, _, h, e => Dist.get (i := i) h.2 e
theorem Dist.set {m l : Nat} {u o : GO} : ∀ {S : List (Nat × GO)} {i}, Dist m S → S[i]? = some (l, o) → Dist m (S.set i (l, u))
  | [], _, _, e => by cases e
  | (k, v) :: S, 0, h, e => by cases e; exact h
  | (k, v) :: S, i + 1, h, e => ⟨h.1, Dist.set (i := i) h.2 e⟩
theorem Dist.keys {m : Nat} : ∀ {S : List (Nat × GO)}, Dist m S ↔ ∀ p ∈ S, m ≠ p.1
  | [] => by simp [Dist]
  | (k, v) :: S => by
    rw [dist_cons, Dist.keys (S := S)]
    simp
theorem Has.set_ne {g : G} {l : Nat} {u : GO} : ∀ {S : List (Nat × GO)}, Has g S → Dist l S → Has (g.set l u) S
  | [], _, _ => True.intro
  | (k, v) :: S, h, d => ⟨by rw [List.getElem?_set_ne d.1]; exact h.1, h.2.1, Has.set_ne h.2.2 d.2⟩
theorem Has.set {g : G} {l : Nat} {u o : GO} : ∀ {S : List (Nat × GO)} {i}, Has g S → S[i]? = some (l, o) → Has (g.set l u) (S.set i (l, u))
  | [], _, _, e => by cases e
  | (k, v) :: S, 0, h, e => by
    cases e
    exact ⟨List.getElem?_set_self (List.getElem?_eq_some_iff.mp h.1).1, h.2.1, Has.set_ne h.2.2 h.2.1⟩
  | (k, v) :: S, i + 1, h, e => ⟨by
      rw [List.getElem?_set_ne fun z => Dist.get (i := i) h.2.1 e z.symm]
      exact h.1, Dist.set (i := i) h.2.1 e, Has.set (i := i) h.2.2 e⟩
theorem Has.app {g e : G} : ∀ {S : List (Nat × GO)}, Has g S → Has (g ++ e) S
  | [], _ => True.intro
  | (k, v) :: S, h => ⟨by rw [List.getElem?_append_left (List.getElem?_eq_some_iff.mp h.1).1]; exact h.1, h.2.1, Has.app h.2.2⟩
theorem Has.fresh {g : G} {l : Nat} (hl : g.length ≤ l) : ∀ {S : List (Nat × GO)}, Has g S → Dist l S
  | [], _ => True.intro
  | (k, v) :: S, h => ⟨fun z => by have := (List.getElem?_eq_some_iff.mp h.1).1; omega, Has.fresh hl h.2.2⟩
theorem Has.new {g : G} {o : GO} {S} (h : Has g S) : Has (g ++ [o]) ((g.length, o) :: S) := ⟨by simp, h.fresh (Nat.le_refl _), h.app⟩
theorem Dist.erase {m : Nat} : ∀ {S : List (Nat × GO)} (i : Nat), Dist m S → Dist m (S.eraseIdx i)
  | [], _, h => h
  | _ :: S, 0, h => h.2
  | _ :: S, i + 1, h => ⟨h.1, Dist.erase i h.2⟩
theorem Has.erase {g : G} : ∀ {S : List (Nat × GO)} (i : Nat), Has g S → Has g (S.eraseIdx i)
  | [], _, h => h
  | _ :: S, 0, h => h.2.2
  | _ :: S, i + 1, h => ⟨h.1, h.2.1.erase i, Has.erase i h.2.2⟩
theorem Dist.app {m : Nat} : ∀ {S S' : List (Nat × GO)}, Dist m (S ++ S') ↔ Dist m S ∧ Dist m S'
  | [], S' => by simp [Dist]
  | (k, v) :: S, S' => by
    simp only [List.cons_append, dist_cons, Dist.app (S := S) (S' := S'), and_assoc]
theorem Has.left {g : G} : ∀ {S S' : List (Nat × GO)}, Has g (S ++ S') → Has g S
  | [], _, _ => True.intro
  | (k, v) :: S, S', h => ⟨h.1, (Dist.app.mp h.2.1).1, Has.left h.2.2⟩
theorem Has.right {g : G} : ∀ {S S' : List (Nat × GO)}, Has g (S ++ S') → Has g S'
  | [], _, h => h
  | (k, v) :: S, S', h => Has.right (S := S) h.2.2
def wpO {α : Type} (r : Out α) (P : Out α → Prop) : Prop := P r
def wpF (r : Fl) (P : Fl → Prop) : Prop := P r
def bP {α β : Type} (k : α → G → Out β) (P : Out β → Prop) : Out α → Prop
  | .ok a g => wpO (k a g) P
  | .ex c fs g => P (.ex c fs g)
  | .bad => P .bad
def lP {α : Type} (σ : Sg) (k : α → G → Fl) (P : Fl → Prop) : Out α → Prop
  | .ok a g => wpF (k a g) P
  | .ex c fs g => P (.ex c fs σ g)
  | .bad => P .bad
def qP (s : SD) (P : Fl → Prop) : Fl → Prop
  | .nx σ g => wpF (s σ g) P
  | r => P r
def oP (P : Out W → Prop) : Fl → Prop := fun r => P r.out
theorem wp_bind {α β : Type} {r : Out α} {k : α → G → Out β} {P} : wpO (r.bind k) P = wpO r (bP k P) := by cases r <;> rfl
theorem wp_fl {α : Type} {r : Out α} {σ : Sg} {k : α → G → Fl} {P} : wpF (r.fl σ k) P = wpO r (lP σ k P) := by cases r <;> rfl
theorem wp_sq {r : Fl} {s : SD} {P} : wpF (r.sq s) P = wpF r (qP s P) := by cases r <;> rfl
theorem wp_out {r : Fl} {P} : wpO r.out P = wpF r (oP P) := (rfl)
theorem wpO_ok {α : Type} {a : α} {g : G} {P} : wpO (.ok a g) P = P (.ok a g) := (rfl)
theorem wpO_ex {α : Type} {c fs} {g : G} {P : Out α → Prop} : wpO (.ex c fs g) P = P (.ex c fs g) := (rfl)
theorem wpF_nx {σ g P} : wpF (.nx σ g) P = P (.nx σ g) := (rfl)
theorem wpF_rt {w g P} : wpF (.rt w g) P = P (.rt w g) := (rfl)
theorem wpF_ex {c fs σ g P} : wpF (.ex c fs σ g) P = P (.ex c fs σ g) := (rfl)
theorem wpF_bk {σ g P} : wpF (.bk σ g) P = P (.bk σ g) := (rfl)
theorem wpF_ct {σ g P} : wpF (.ct σ g) P = P (.ct σ g) := (rfl)
theorem bP_ok {α β : Type} {k : α → G → Out β} {P a g} : bP k P (.ok a g) = wpO (k a g) P := (rfl)
theorem bP_ex {α β : Type} {k : α → G → Out β} {P c fs g} : bP k P (.ex c fs g) = P (.ex c fs g) := (rfl)
theorem lP_ok {α : Type} {σ} {k : α → G → Fl} {P a g} : lP σ k P (.ok a g) = wpF (k a g) P := (rfl)
theorem lP_ex {α : Type} {σ} {k : α → G → Fl} {P c fs g} : lP σ k P (.ex c fs g) = P (.ex c fs σ g) := (rfl)
theorem qP_nx {s P σ g} : qP s P (.nx σ g) = wpF (s σ g) P := (rfl)
theorem qP_rt {s P w g} : qP s P (.rt w g) = P (.rt w g) := (rfl)
theorem qP_ex {s P c fs σ g} : qP s P (.ex c fs σ g) = P (.ex c fs σ g) := (rfl)
theorem qP_bk {s P σ g} : qP s P (.bk σ g) = P (.bk σ g) := (rfl)
theorem qP_ct {s P σ g} : qP s P (.ct σ g) = P (.ct σ g) := (rfl)
theorem oP_rt {P w g} : oP P (.rt w g) = P (.ok w g) := (rfl)
theorem oP_nx {P σ g} : oP P (.nx σ g) = P (.ok .non g) := (rfl)
theorem oP_ex {P c fs σ g} : oP P (.ex c fs σ g) = P (.ex c fs g) := (rfl)
/-- from an equation -/
theorem wpO_of {α : Type} {r r' : Out α} {P} (e : r = r') (h : P r') : wpO r P := by rw [e]; exact h
def alloc (o : GO) (g : G) : Out W := .ok (.ref g.length) (g ++ [o])
def updO {α : Type} (l : Nat) (u : GO) (a : α) (g : G) : Out α := .ok a (g.set l u)
theorem wp_alloc {g : G} {S o} {P : Out W → Prop} (H : Has g S) (h : ∀ l g', Has g' ((l, o) :: S) → P (.ok (.ref l) g')) : wpO (alloc o g) P := h _ _ H.new
theorem wp_upd {α : Type} {g : G} {S l o u} {a : α} {P : Out α → Prop} (H : Has g S) (i : Nat) (hi : S[i]? = some (l, o)) (h : ∀ g', Has g' (S.set i (l, u)) → P (.ok a g')) : wpO (updO l u a g) P := h _ (H.set hi)
theorem pe_lst {as : AD} {σ : Sg} {g : G} : eLst as σ g = (as σ g).bind fun xs g => br (fits xs.length) (alloc (.lst xs) g) .bad := (rfl)
theorem pe_dict0 {σ : Sg} {g : G} : eDict0T σ g = alloc (.dT []) g := (rfl)
theorem pe_dict0K {σ : Sg} {g : G} : eDict0K σ g = alloc (.dK []) g := (rfl)
theorem papp1 {g : G} {l : Nat} {y : W} {xs : List W} : app1 l y g (some (GO.lst xs)) = br (fits xs.length) (updO l (.lst (xs ++ [y])) W.non g) .bad := (rfl)
theorem plist1 {g : G} {xs : List W} : list1 g (some (GO.lst xs)) = alloc (.lst xs) g := (rfl)
theorem ps_fld1 {i : Nat} {y : W} {σ : Sg} {g : G} {l c fs} : fld1 i y σ g (some (l, c, fs)) = (br (decide (fs.length < 100)) (updO l (.ins c (putW i y fs)) () g) .bad).fl σ fun _ g => .nx σ g := by
  rw [fld1_some]
  cases decide (fs.length < 100) <;> rfl
theorem pset1 {d : Disp} {l i : Nat} {w : W} {g : G} {ws : List W} (h : i < ws.length) : set1 d l (.int i) w g (some (.lst ws)) = updO l (.lst (ws.set i w)) () g := set1_lst (j := 0) h
theorem pset_ek {d : Disp} {l : Nat} {w : W} {g : G} {node : Str} {out : Int} {kvs : List (List Key × W)} : set1 d l (.tup [.str node, .int out]) w g (some (GO.dT kvs)) = br (fits kvs.length) (updO l (GO.dT (putKW (ek node out) w kvs)) () g) .bad := by
  rw [set1_dT]
  have e : keysW (.tup [.str node, .int out]) = some (ek node out) := rfl
  rw [e]
  dsimp only
  cases h : fits kvs.length <;> rfl
theorem pset_own {d : Disp} {l : Nat} {y w : W} {g : G} {c fs} : set1 d l y w g (some (GO.ins c fs)) = match getD c d with
    | some F => (F [.ref l, y, w] g).bind fun _ g => .ok () g
    | none => .bad := by
  simp only [set1]
  cases getD c d with
  | none => rfl
  | some F => dsimp only; cases F [.ref l, y, w] g <;> rfl
theorem wp_br {α : Type} {b : Bool} {x y : Out α} {P} (h : b = true → wpO x P) (h' : b = false → wpO y P) : wpO (br b x y) P := by
  cases b with
  | true => exact h rfl
  | false => exact h' rfl
theorem wpF_br {b : Bool} {x y : Fl} {P} (h : b = true → wpF x P) (h' : b = false → wpF y P) : wpF (br b x y) P := by
  cases b with
  | true => exact h rfl
  | false => exact h' rfl
def loopP (I : Sg → G → Prop) (P : Fl → Prop) : Fl → Prop
  | .nx σ g => I σ g
  | .ct σ g => I σ g
  | .bk σ g => P (.nx σ g)
  | r => P r
theorem loopP_nx {I P σ g} : loopP I P (.nx σ g) = I σ g := (rfl)
theorem loopP_ct {I P σ g} : loopP I P (.ct σ g) = I σ g := (rfl)
theorem loopP_bk {I P σ g} : loopP I P (.bk σ g) = P (.nx σ g) := (rfl)
theorem loopP_rt {I P w g} : loopP I P (.rt w g) = P (.rt w g) := (rfl)
theorem loopP_ex {I P c fs σ g} : loopP I P (.ex c fs σ g) = P (.ex c fs σ g) := (rfl)
def tgP (k : SD) (P : Fl → Prop) : Out Sg → Prop
  | .ok σ g => wpF (k σ g) P
  | _ => False
theorem tgP_ok {k P σ g} : tgP k P (.ok σ g) = wpF (k σ g) P := (rfl)
theorem s_for {i : ID} {tg : GD} {body : SD} {σ : Sg} {g : G} : sFor i tg body σ g = (i σ g).fl σ fun J g => forGo J tg body J.ws σ g := (rfl)
/-- a walk over the list ws: I i σ g holds when i of them are done -/
theorem wp_for {J : Items} {tg : GD} {body : SD} {σ : Sg} {g : G} {P} (I : Nat → Sg → G → Prop) (h0 : I 0 σ g) (hst : ∀ i σ g, I i σ g → still J g = true)
    (step : ∀ i w σ g, J.ws[i]? = some w → I i σ g → wpO (tg w σ g) (tgP body (loopP (I (i + 1)) P))) (done : ∀ σ g, I J.ws.length σ g → P (.nx σ g)) : wpF (forGo J tg body J.ws σ g) P := by
  have key : ∀ (ws : List W) (n : Nat) (σ : Sg) (g : G), (∀ i, ws[i]? = J.ws[n + i]?) → n + ws.length = J.ws.length → I n σ g → wpF (forGo J tg body ws σ g) P := by
    intro ws
    induction ws with
    | nil =>
      intro n σ g hw hn hI
      unfold forGo
      rw [if_pos (hst n σ g hI)]
      have : n = J.ws.length := by simpa using hn
      subst this
      exact done σ g hI
    | cons w ws ih =>
      intro n σ g hw hn hI
      have hw0 : J.ws[n]? = some w := by have := hw 0; simpa using this.symm
      have ih := ih (n + 1)
      have st := step n w σ g hw0 hI
      unfold forGo
      rw [if_pos (hst n σ g hI)]
      unfold wpO at st
      cases ht : tg w σ g with
      | ok σ1 g1 =>
        rw [ht] at st
        show wpF (match body σ1 g1 with
          | .nx σ g => forGo J tg body ws σ g
          | .ct σ g => forGo J tg body ws σ g
          | .bk σ g => .nx σ g
          | r => r) P
        rw [tgP_ok] at st
        unfold wpF at st
        have nxt : ∀ σ g, I (n + 1) σ g → wpF (forGo J tg body ws σ g) P := fun σ g h => ih σ g (fun i => by
          have := hw (i + 1)
          rw [show n + 1 + i = n + (i + 1) by omega]
          simpa using this) (by rw [← hn, List.length_cons]; omega) h
        cases hb : body σ1 g1 with
        | nx σ g => rw [hb] at st; exact nxt σ g st
        | ct σ g => rw [hb] at st; exact nxt σ g st
        | bk σ g => rw [hb] at st; exact st
        | rt w g => rw [hb] at st; exact st
        | ex c fs σ g => rw [hb] at st; exact st
        | bad => rw [hb] at st; exact st
      | ex c fs g => rw [ht] at st; exact st.elim
      | bad => rw [ht] at st; exact st.elim
  exact key J.ws 0 σ g (fun i => by rw [Nat.zero_add]) (Nat.zero_add _) h0
def tryP (cov : List (Nat × Bool)) (i : Nat) (suite : Nat → List (Nat × W) → SD) (P : Fl → Prop) : Fl → Prop
  | .ex c fs σ' g' => match getB c cov with
    | some true => if i < σ'.length then wpF (suite c fs (σ'.set i (some .opq)) g') fun r => P (offS i r) else P .bad
    | some false => P (.ex c fs σ' g')
    | none => P .bad
  | r => P r
theorem wp_try {cov i body suite σ g P} : wpF (sTry cov i body suite σ g) P = wpF (body σ g) (tryP cov i suite P) := by
  unfold sTry wpF
  cases body σ g with
  | ex c fs σ' g' =>
    dsimp only [tryP]
    cases getB c cov with
    | none => rfl
    | some b =>
      cases b with
      | false => rfl
      | true =>
        dsimp only
        by_cases h : i < σ'.length
        · rw [if_pos h, if_pos h]; rfl
        · rw [if_neg h, if_neg h]
  | _ => rfl
theorem tryP_nx {cov i suite P σ g} : tryP cov i suite P (.nx σ g) = P (.nx σ g) := (rfl)
theorem tryP_rt {cov i suite P w g} : tryP cov i suite P (.rt w g) = P (.rt w g) := (rfl)
theorem tryP_ct {cov i suite P σ g} : tryP cov i suite P (.ct σ g) = P (.ct σ g) := (rfl)
theorem tryP_bk {cov i suite P σ g} : tryP cov i suite P (.bk σ g) = P (.bk σ g) := (rfl)
theorem tryP_ex {cov i suite P c fs σ g} (h : getB c cov = some true) (hi : i < σ.length) : tryP cov i suite P (.ex c fs σ g) = wpF (suite c fs (σ.set i (some .opq)) g) fun r => P (offS i r) := by
  unfold tryP
  dsimp only
  rw [h]
  dsimp only
  rw [if_pos hi]
theorem offS_rt {i w g} : offS i (.rt w g) = .rt w g := (rfl)
theorem offS_nx {i σ g} : offS i (.nx σ g) = .nx (σ.set i none) g := (rfl)
end Q
end WL
end
section
set_option maxRecDepth 100000
set_option maxHeartbeats 1000000
namespace WL
namespace Q
open PySem PySem.Spec L2
open PyProof.Rows hiding St
set_option autoImplicit true
theorem ownF_ins {d : Disp} {g : G} {l c fs} (h : g[l]? = some (GO.ins c fs)) : ownF d g (.ref l) = getD c d := by simp only [ownF, insAt, h]
def in1 (d : Disp) (x : W) (l : Nat) (g : G) (o : Option GO) : Out W := match o with
  | some (.dT kvs) => match keysW x with
    | some k => .ok (.bl (getK k kvs).isSome) g
    | none => inF d x (.ref l) g
  | some (.lst ws) => br (flatW x && ws.all flatW) (.ok (.bl (inL x ws)) g) (inF d x (.ref l) g)
  | some (.ins c fs) => match getD c d with
    | some F => (F [.ref l, x] g).bind fun w g => (asB w g).bind fun b g => .ok (.bl b) g
    | none => .bad
  | _ => inF d x (.ref l) g
theorem in_ref {d : Disp} {x : W} {l : Nat} {g : G} : inF d x (.ref l) g = in1 d x l g (g[l]?) := by
  cases h : g[l]? with
  | none => rfl
  | some o =>
    cases o with
    | dK kvs => rfl
    | lst ws =>
      unfold in1
      dsimp only
      cases hb : flatW x && ws.all flatW with
      | false => rw [br_f]
      | true =>
        rw [br_t]
        unfold inF inW
        dsimp only
        simp only [seqAt, listAt, h, hb, if_true, negW]
        simp
    | dT kvs =>
      unfold in1
      dsimp only
      cases hk : keysW x with
      | none => rfl
      | some k =>
        dsimp only
        unfold inF inW
        dsimp only
        simp only [seqAt, listAt, h, dictGet, hk, Option.map_some, negW]
        cases getK k kvs <;> rfl
    | ins c fs =>
      unfold in1
      dsimp only
      unfold inF inW
      dsimp only
      simp only [seqAt, listAt, h, dictGet, ownF_ins h]
      cases getD c d with
      | none => rfl
      | some F =>
        dsimp only
        cases F [.ref l, x] g with
        | ok w g' => cases w <;> try rfl
                     rename_i b; cases b <;> rfl
        | ex c fs g' => rfl
        | bad => rfl
theorem in1_strs {d : Disp} {s : Str} {l : Nat} {g : G} {nodes : List Str} : in1 d (.str s) l g (some (GO.lst (nodes.map W.str))) = .ok (.bl (decide (s ∈ nodes))) g := by
  unfold in1
  dsimp only
  rw [flat_strs, inL_str]
  rfl
theorem in1_dT {d : Disp} {node : Str} {out : Int} {l : Nat} {g : G} {kvs} : in1 d (.tup [.str node, .int out]) l g (some (GO.dT kvs)) = .ok (.bl (getK (ek node out) kvs).isSome) g := by
  unfold in1
  have e : keysW (.tup [.str node, .int out]) = some (ek node out) := rfl
  dsimp only
  rw [e]
theorem in1_insF {d : Disp} {x : W} {l : Nat} {g : G} {c fs} : in1 d x l g (some (GO.ins c fs)) = match getD c d with
    | some F => (F [.ref l, x] g).bind fun w g => (asB w g).bind fun b g => .ok (.bl b) g
    | none => .bad := (rfl)
theorem nin_in {d : Disp} {x y : W} {g : G} : notinF d x y g = (inF d x y g).bind fun w g => (asB w g).bind fun b g => .ok (.bl (!b)) g := by
  unfold notinF inF
  cases inW d x y g with
  | ok w g' => cases w <;> try rfl
               rename_i b; cases b <;> rfl
  | ex c fs g' => rfl
  | bad => rfl
theorem sub1_insF {d : Disp} {l : Nat} {y : W} {g : G} {c fs} : sub1 d l y g (some (.ins c fs)) = match getD c d with
    | some F => F [.ref l, y] g
    | none => .bad := (rfl)
theorem sub_tup {d : Disp} {ws : List W} {y : W} {g : G} : subW d (.tup ws) y g = ixSeq ws y g := (rfl)
def meth1 (d : Disp) (x : W) (as : Out (List W)) (o : Option (Nat × Nat × List (Nat × W))) : Out W := match o with
  | some (_, c, _) => match getD c d with
    | some F => as.bind fun ws g => F (x :: ws) g
    | none => .bad
  | none => .bad
theorem pe_meth {d : Disp} {a : ED} {as : AD} {σ : Sg} {g : G} : eMeth d a as σ g = (a σ g).bind fun x g => meth1 d x (as σ g) (insAt g x) := (rfl)
theorem meth1_ins {d : Disp} {x : W} {as : Out (List W)} {l c fs} : meth1 d x as (some (l, c, fs)) = match getD c d with
    | some F => as.bind fun ws g => F (x :: ws) g
    | none => .bad := (rfl)
theorem con1_ins {l c : Nat} {fs : List (Nat × W)} {cs : List (Nat × W)} {g : G} : (match (some (l, c, fs) : Option (Nat × Nat × List (Nat × W))) with
  | some (_, c, _) => match getW c cs with
    | some w => Out.ok w g
    | none => .bad
  | none => .bad) = match getW c cs with
    | some w => Out.ok w g
    | none => .bad := (rfl)
mutual
/-- plain data without places, tuples at most n deep -/
def okW : Nat → W → Bool
  | _, .non => true
  | _, .bl _ => true
  | _, .int _ => true
  | _, .str s => PySem.PyData.strOk s
  | n + 1, .tup ws => okWs n ws
  | _, _ => false
def okWs : Nat → List W → Bool
  | _, [] => true
  | n, w :: ws => okW n w && okWs n ws
end
mutual
theorem okW_data : ∀ (n : Nat) (w : W), okW n w = true → ∃ d, (∀ rf, toDg rf w = some d) ∧ d.canLay0 = true ∧ d.depth ≤ n
  | _, .non, _ => ⟨.none, fun _ => rfl, rfl, Nat.zero_le _⟩
  | _, .bl b, _ => ⟨.bool b, fun _ => rfl, rfl, Nat.zero_le _⟩
  | _, .int i, _ => ⟨.int i, fun _ => rfl, rfl, Nat.zero_le _⟩
  | _, .str s, h => ⟨.str s, fun _ => rfl, by unfold okW at h; exact h, Nat.zero_le _⟩
  | n + 1, .tup ws, h => by
    unfold okW at h
    obtain ⟨ds, e, c, p⟩ := okWs_data n ws h
    exact ⟨.tuple ds, fun rf => by unfold toDg; rw [e rf]; rfl, c, by unfold PyData.depth; omega⟩
  | 0, .tup ws, h => by unfold okW at h; cases h
  | _, .ref _, h => by unfold okW at h; cases h
  | _, .ty _, h => by unfold okW at h; cases h
  | _, .opq, h => by unfold okW at h; cases h
  | _, .scr _, h => by unfold okW at h; cases h
theorem okWs_data : ∀ (n : Nat) (ws : List W), okWs n ws = true → ∃ ds, (∀ rf, toDgs rf ws = some ds) ∧ PyData.canLayAll0 ds = true ∧ PyData.depthAll ds ≤ n
  | n, [], _ => ⟨[], fun _ => rfl, rfl, Nat.zero_le _⟩
  | n, w :: ws, h => by
    unfold okWs at h
    rw [Bool.and_eq_true] at h
    obtain ⟨d, e, c, p⟩ := okW_data n w h.1
    obtain ⟨ds, e2, c2, p2⟩ := okWs_data n ws h.2
    refine ⟨d :: ds, fun rf => by unfold toDgs; rw [e rf, e2 rf], ?_, ?_⟩
    · unfold PyData.canLayAll0; rw [c, c2]; rfl
    · unfold PyData.depthAll; exact Nat.max_le.mpr ⟨p, p2⟩
end
theorem okWs_of {n : Nat} : ∀ {ws : List W}, (∀ w ∈ ws, okW n w = true) → okWs n ws = true
  | [], _ => rfl
  | w :: ws, h => by
    unfold okWs
    rw [h w List.mem_cons_self, okWs_of fun x hx => h x (List.mem_cons_of_mem _ hx)]
    rfl
theorem shaped_of {d : PyData} {n : Nat} (h : d.canLay0 = true) (p : d.depth ≤ n) (hn : n ≤ 64) : SeqAt.shaped d = true := by
  unfold SeqAt.shaped
  rw [h, decide_eq_true (Nat.le_trans p hn)]
  rfl
theorem eq_toD {g : G} {x y : W} {d : PyData} (hx : toD g x = some d) (hy : toD g y = some d) (h : SeqAt.shaped d = true) : eqF x y g = Out.ok (.bl true) g := by
  unfold eqF
  rw [hx, hy]
  dsimp only
  rw [h, PySem.SeqAt.eqv_refl d (SeqAt.canLay_of_shaped h)]
  rfl
theorem ne_toD {g : G} {x y : W} {d : PyData} (hx : toD g x = some d) (hy : toD g y = some d) (h : SeqAt.shaped d = true) : neF x y g = Out.ok (.bl false) g := by
  unfold neF
  rw [hx, hy]
  dsimp only
  rw [h, PySem.SeqAt.eqv_refl d (SeqAt.canLay_of_shaped h)]
  rfl
theorem toD_ok {g : G} {x : W} {n : Nat} (h : okW n x = true) (hn : n ≤ 64) : ∃ d, toD g x = some d ∧ SeqAt.shaped d = true := by
  obtain ⟨d, e, c, p⟩ := okW_data n x h
  exact ⟨d, e _, shaped_of c p hn⟩
theorem toD_lst {g : G} {l : Nat} {ws : List W} {n : Nat} (hl : g[l]? = some (GO.lst ws)) (h : okWs n ws = true) (hn : n ≤ 60) : ∃ d, toD g (.ref l) = some d ∧ SeqAt.shaped d = true ∧ ∀ k, g[k]? = some (GO.lst ws) → toD g (.ref k) = some d := by
  obtain ⟨ds, e, c, p⟩ := okWs_data n ws h
  have key : ∀ k, g[k]? = some (GO.lst ws) → toD g (.ref k) = some (.list ds) := fun k hk => by
    unfold toD toDg
    unfold rfD
    rw [hk]
    dsimp only
    rw [e]
    rfl
  exact ⟨.list ds, key l hl, shaped_of (n := n + 1) c (by unfold PyData.depth; omega) (by omega), key⟩
theorem eq_same {g : G} {x : W} (h : okW 5 x = true) : eqF x x g = Out.ok (.bl true) g := by
  obtain ⟨d, e, s⟩ := toD_ok (g := g) h (by decide)
  exact eq_toD e e s
theorem ne_same {g : G} {x : W} (h : okW 5 x = true) : neF x x g = Out.ok (.bl false) g := by
  obtain ⟨d, e, s⟩ := toD_ok (g := g) h (by decide)
  exact ne_toD e e s
theorem eq_lsts {g : G} {l k : Nat} {ws : List W} (hl : g[l]? = some (GO.lst ws)) (hk : g[k]? = some (GO.lst ws)) (h : okWs 5 ws = true) : eqF (.ref l) (.ref k) g = Out.ok (.bl true) g := by
  obtain ⟨d, e, s, z⟩ := toD_lst hl h (by decide)
  exact eq_toD e (z k hk) s
theorem ne_lsts {g : G} {l k : Nat} {ws : List W} (hl : g[l]? = some (GO.lst ws)) (hk : g[k]? = some (GO.lst ws)) (h : okWs 5 ws = true) : neF (.ref l) (.ref k) g = Out.ok (.bl false) g := by
  obtain ⟨d, e, s, z⟩ := toD_lst hl h (by decide)
  exact ne_toD e (z k hk) s
theorem Nm.ok {s : Str} (h : Nm s) : PySem.PyData.strOk s = true := by
  unfold PySem.PyData.strOk
  rw [Array.all_eq_true]
  intro i hi
  have := h.all s.cps[i] (by simp)
  unfold isSign isLetter at this
  exact decide_eq_true (by omega)
theorem okW_str {n : Nat} {s : Str} (h : Nm s) : okW n (.str s) = true := by unfold okW; exact h.ok
theorem okW_int {n : Nat} {i : Int} : okW n (.int i) = true := by unfold okW; rfl
theorem okW_bl {n : Nat} {b : Bool} : okW n (.bl b) = true := by unfold okW; rfl
theorem okW_non {n : Nat} : okW n .non = true := by unfold okW; rfl
theorem okW_tg {n : Nat} : ∀ {t : Option Str}, TgOk t → okW n (tgW t) = true
  | none, _ => okW_non
  | some _, h => okW_str h
theorem okW_tup {n : Nat} {ws : List W} (h : okWs n ws = true) : okW (n + 1) (.tup ws) = true := by unfold okW; exact h
theorem okWs_cons {n : Nat} {w : W} {ws : List W} (h : okW n w = true) (h' : okWs n ws = true) : okWs n (w :: ws) = true := by unfold okWs; rw [h, h']; rfl
theorem okWs_nil {n : Nat} : okWs n [] = true := rfl
theorem okWs_strs {n : Nat} {nodes : List Str} (h : ∀ s ∈ nodes, Nm s) : okWs n (nodes.map W.str) = true := okWs_of fun w hw => by
  obtain ⟨s, hs, rfl⟩ := List.mem_map.mp hw
  exact okW_str (h s hs)
end Q
end WL
end
section
set_option maxRecDepth 100000
set_option maxHeartbeats 1000000
namespace WL
namespace Q
open PySem PySem.Spec L2
open PyProof.Rows hiding St
open PySem.Builtin.Str
set_option autoImplicit true
/-- the list of a pool: the script's copy at q -/
def PoolOk (q : Nat) (ns : List Int) (o : GO) : Prop := ∃ a b c : Int, o = .lst [.ref q, .int a, .int b, .int c] ∧ 0 ≤ a ∧ 0 ≤ b ∧ b ≤ ns.length ∧ 0 ≤ c
theorem PoolOk.mk0 {q ns} : PoolOk q ns (.lst [.ref q, .int 0, .int 0, .int 0]) := ⟨0, 0, 0, rfl, by decide, by decide, by omega, by decide⟩
theorem sp_draw {g : G} {S : List (Nat × GO)} {p q : Nat} {ns : List Int} {o : GO} {L : Int} {P : Out W → Prop} (H : Has g S) (i : Nat) (hi : S[i]? = some (p, o)) (j : Nat) (hj : S[j]? = some (q, .lst (ns.map .int))) (ho : PoolOk q ns o) (hL : 0 < L) (hL2 : L < 2 ^ 100)
    (k : ∀ (d : Nat) (o' : GO) (g' : G), (d : Int) < L → PoolOk q ns o' → Has g' (S.set i (p, o')) → P (.ok (.int d) g')) : wpO (F_draw [.ref p, .int L] g) P := by
  obtain ⟨a, b, c, rfl, ha, hb, hb2, hc⟩ := ho
  have hp := H.get hi
  have hq := H.get hj
  have ne : p ≠ q := fun z => by
    rw [z, hq] at hp
    have h2 := Option.some.inj hp
    injection h2 with h3
    cases ns with
    | nil => cases h3
    | cons n ns => cases h3
  obtain ⟨d, a', b', c', e, d0, d1, h1, h2, h3, h4⟩ := draw_at ne hq hp ha hb hb2 hc hL hL2
  obtain ⟨dn, rfl⟩ : ∃ dn : Nat, d = dn := ⟨d.toNat, by omega⟩
  exact wpO_of e (k dn _ _ d1 ⟨a', b', c', rfl, h1, h2, h3, h4⟩ (H.set hi))
theorem sp_check {g : G} {S} {s : Str} {P : Out W → Prop} (H : Has g S) (h : Nm s) (k : ∀ g', Has g' S → P (.ok .non g')) : wpO (F_check_name [.str s] g) P := wpO_of (check_name_at h) (k _ H.app)
theorem nm_mk {s : Str} (h1 : 1 ≤ s.cps.toList.length) (h8 : s.cps.toList.length ≤ 8) (hf : ∃ c, s.cps.toList[0]? = some c ∧ isLetter c) (ha : ∀ c ∈ s.cps.toList, isSign c) : Nm s := ⟨by simpa using h1, by simpa using h8, hf, ha⟩
/-- a word padded to at most eight signs -/
theorem ljust_nm {s : Str} {n : Nat} (h : Nm s) (hn : n ≤ 8) : Nm (Txt.ljustF s n 97) := by
  unfold Txt.ljustF
  by_cases hl : (n : Int) ≤ s.length
  · rw [if_pos hl]; exact h
  · rw [if_neg hl]
    have hs : ((s.length : Nat) : Int) < (n : Int) := by omega
    have hs2 : s.cps.toList.length = s.length := by simp [Str.length]
    have h1 := h.len1
    obtain ⟨c, hc, hc2⟩ := h.first
    have e : (padded s 0 ((n : Int).toNat - s.length) 97).cps.toList = s.cps.toList ++ List.replicate (n - s.length) 97 := by
      unfold padded
      simp
    refine nm_mk ?_ ?_ ?_ ?_
    · rw [e, List.length_append, hs2]
      have : 1 ≤ s.length := h1
      omega
    · rw [e, List.length_append, List.length_replicate, hs2]
      omega
    · rw [e]
      refine ⟨c, ?_, hc2⟩
      rw [List.getElem?_append_left (List.getElem?_eq_some_iff.mp hc).1]
      exact hc
    · intro c hc
      rw [e] at hc
      rcases List.mem_append.mp hc with q | q
      · exact h.all c q
      · rw [(List.mem_replicate.mp q).2]
        unfold isSign isLetter
        omega
@[irreducible] def wmost : Nat := 26 * 36 ^ 7
theorem wmost_eq : wmost = 26 * 36 ^ 7 := by unfold wmost; rfl
theorem wmost_pos : 0 < wmost := by rw [wmost_eq]; decide
theorem wmost_int : ((wmost : Nat) : Int) = 26 * 78364164096 := by rw [wmost_eq]; decide
def wordL (first gap size k : Nat) : Str := Txt.ljustF (word ((first + gap * k) % wmost)) size 97
def wordsL (first gap size n : Nat) : List Str := (List.range n).map (wordL first gap size)
theorem wordL_nm {first gap size k : Nat} (h : size ≤ 8) : Nm (wordL first gap size k) := ljust_nm (word_nm (by rw [← wmost_eq]; exact Nat.mod_lt _ wmost_pos)) h
theorem wordsL_nm {first gap size n : Nat} (h : size ≤ 8) : ∀ s ∈ wordsL first gap size n, Nm s := fun s hs => by
  obtain ⟨k, _, rfl⟩ := List.mem_map.mp hs
  exact wordL_nm h
theorem word_len {s : Str} (h : Nm s) : s.length ≤ 1000000 := Nat.le_trans h.len8 (by decide)
theorem pad_nat {n : Nat} (h : n ≤ 1000) : PadOk (n : Int) = true := by
  unfold PadOk fitsSsize tooLong
  have : 1000 ≤ sizeLine := by decide
  simp
  omega
end Q
end WL
end
section
set_option maxRecDepth 100000
set_option maxHeartbeats 1000000
namespace WL
namespace Q
open PySem PySem.Spec L2
open PyProof.Rows hiding St
open PySem.Builtin.Str
set_option autoImplicit true
def lcRun (J : Items) (tg : GD) (tt : TD) (te : ED) (own : List Nat) (σ : Sg) (g1 : G) : Out W := match lcGo J tg tt te own σ g1.length J.ws (g1 ++ [.lst []]) with
  | .ok _ g2 => .ok (.ref g1.length) g2
  | _ => .bad
theorem pe_lc {i : ID} {tg : GD} {tt : TD} {te : ED} {own : List Nat} {σ : Sg} {g : G} : eLc i tg tt te own σ g = (i σ g).bind fun J g1 => lcRun J tg tt te own σ g1 := (rfl)
def endsP {α : Type} (v : α) (S : List (Nat × GO)) : Out α → Prop := fun r => ∃ g, r = .ok v g ∧ Has g S
theorem endsP_ok {α : Type} {v : α} {S g} (H : Has g S) : endsP v S (.ok v g) := ⟨g, rfl, H⟩
def range1 (ws : List W) (g : G) : Out Items := match ws with
  | [.int n] => br (small62 n) (.ok (rangeI 0 n) g) .bad
  | _ => .bad
theorem pi_range1 {as : AD} {σ : Sg} {g : G} : iRange1 as σ g = (as σ g).bind range1 := by
  unfold iRange1 range1 br
  rfl
theorem range1_i {n : Int} {g : G} : range1 [.int n] g = br (small62 n) (.ok (rangeI 0 n) g) .bad := (rfl)
theorem small1 : small62 1 = true := small_nat (n := 1) (by decide)
def items1 (l : Nat) (o : Option GO) (g : G) : Out Items := match o with
  | some (.lst ws) => .ok ⟨ws, some l⟩ g
  | _ => .bad
def itemsR (g : G) (w : W) : Out Items := match itemsOf g w with
  | some L => .ok L g
  | none => .bad
theorem pi_seq {a : ED} {σ : Sg} {g : G} : iSeq a σ g = (a σ g).bind fun w g => itemsR g w := (rfl)
theorem itemsR_ref {g : G} {l : Nat} : itemsR g (.ref l) = items1 l (g[l]?) g := by
  simp only [itemsR, itemsOf]
  cases g[l]? with
  | none => rfl
  | some o => cases o <;> rfl
theorem items1_lst {g : G} {l : Nat} {ws : List W} : items1 l (some (.lst ws)) g = .ok ⟨ws, some l⟩ g := (rfl)
theorem itemsR_tup {g : G} {ws : List W} : itemsR g (.tup ws) = .ok ⟨ws, none⟩ g := (rfl)
/-- the walked list stands among those that are told -/
def StillS (J : Items) (S : List (Nat × GO)) : Prop := match J.at_ with
  | none => True
  | some l => ∃ i : Nat, S[i]? = some (l, GO.lst J.ws)
theorem StillS.st {J S g} (h : StillS J S) (H : Has g S) : still J g = true := by
  unfold StillS at h
  unfold still
  cases e : J.at_ with
  | none => rfl
  | some l =>
    rw [e] at h
    obtain ⟨i, hi⟩ := h
    dsimp only
    exact decide_eq_true (H.get hi)
theorem StillS.cons {J S p} (h : StillS J S) : StillS J (p :: S) := by
  unfold StillS at h ⊢
  cases e : J.at_ with
  | none => trivial
  | some l =>
    rw [e] at h
    obtain ⟨i, hi⟩ := h
    exact ⟨i + 1, by simpa using hi⟩
theorem StillS.at {ws : List W} {l : Nat} {S} (i : Nat) (h : S[i]? = some (l, GO.lst ws)) : StillS ⟨ws, some l⟩ S := ⟨i, h⟩
theorem wp_lc {J : Items} {tg : GD} {tt : TD} {te : ED} {own : List Nat} {σ : Sg} {g : G} {S : List (Nat × GO)} {P : Out W → Prop} (τ : W → Sg) (f : W → Option W) (H : Has g S) (hJ : StillS J S) (hl : J.ws.length ≤ 1000000)
    (htg : ∀ w ∈ J.ws, ∀ g', tg w (wipeW σ own) g' = .ok (τ w) g')
    (hno : ∀ w ∈ J.ws, f w = none → ∀ L acc g', Has g' ((L, GO.lst acc) :: S) → wpO (tt (τ w) g') (endsP false ((L, GO.lst acc) :: S)))
    (hyes : ∀ w ∈ J.ws, ∀ y, f w = some y → ∀ L acc g', Has g' ((L, GO.lst acc) :: S) → wpO (tt (τ w) g') (endsP true ((L, GO.lst acc) :: S)) ∧ wpO (te (τ w) g') (endsP y ((L, GO.lst acc) :: S)))
    (k : ∀ l g', Has g' ((l, GO.lst (J.ws.filterMap f)) :: S) → P (.ok (.ref l) g')) : wpO (lcRun J tg tt te own σ g) P := by
  have key : ∀ (ws : List W), (∀ w ∈ ws, w ∈ J.ws) → ∀ (L : Nat) (acc : List W) (g : G), acc.length + ws.length ≤ 1000000 → Has g ((L, GO.lst acc) :: S) → ∃ g', lcGo J tg tt te own σ L ws g = .ok () g' ∧ Has g' ((L, GO.lst (acc ++ ws.filterMap f)) :: S) := by
    intro ws
    induction ws with
    | nil =>
      intro _ L acc g _ H
      refine ⟨g, ?_, by simpa using H⟩
      unfold lcGo
      rw [if_pos (hJ.cons.st H)]
    | cons w ws ih =>
      intro hw L acc g hn H
      have hw0 := hw w List.mem_cons_self
      have ih := ih fun x hx => hw x (List.mem_cons_of_mem _ hx)
      have hn' : acc.length + ws.length + 1 ≤ 1000000 := by simpa [Nat.add_assoc] using hn
      unfold lcGo
      rw [if_pos (hJ.cons.st H), htg w hw0]
      dsimp only
      cases hf : f w with
      | none =>
        obtain ⟨g3, e3, H3⟩ := hno w hw0 hf L acc g H
        rw [e3]
        dsimp only
        obtain ⟨g', e, H'⟩ := ih L acc g3 (by omega) H3
        refine ⟨g', e, ?_⟩
        rw [List.filterMap_cons, hf]
        exact H'
      | some y =>
        obtain ⟨g3, e3, H3⟩ := (hyes w hw0 y hf L acc g H).1
        rw [e3]
        dsimp only
        obtain ⟨g4, e4, H4⟩ := (hyes w hw0 y hf L acc g3 H3).2
        rw [e4]
        dsimp only
        have ea : appL L y g4 = some (g4.set L (.lst (acc ++ [y]))) := by
          unfold appL
          rw [H4.1]
          dsimp only
          rw [if_pos (fits_of (by omega))]
        rw [ea]
        dsimp only
        obtain ⟨g', e, H'⟩ := ih L (acc ++ [y]) (g4.set L (.lst (acc ++ [y]))) (by rw [List.length_append, List.length_singleton]; omega) (H4.set (i := 0) rfl)
        refine ⟨g', e, ?_⟩
        rw [List.filterMap_cons, hf]
        rw [List.append_assoc] at H'
        exact H'
  unfold lcRun
  obtain ⟨g', e, H'⟩ := key J.ws (fun _ h => h) g.length [] (g ++ [.lst []]) (by simpa using hl) H.new
  rw [e]
  exact k _ _ (by simpa using H')
/-- [f(x) for x in ..] -/
theorem wp_lcMap {J : Items} {tg : GD} {te : ED} {own : List Nat} {σ : Sg} {g : G} {S : List (Nat × GO)} {P : Out W → Prop} (τ : W → Sg) (f : W → W) (H : Has g S) (hJ : StillS J S) (hl : J.ws.length ≤ 1000000)
    (htg : ∀ w ∈ J.ws, ∀ g', tg w (wipeW σ own) g' = .ok (τ w) g')
    (hyes : ∀ w ∈ J.ws, ∀ L acc g', Has g' ((L, GO.lst acc) :: S) → wpO (te (τ w) g') (endsP (f w) ((L, GO.lst acc) :: S)))
    (k : ∀ l g', Has g' ((l, GO.lst (J.ws.map f)) :: S) → P (.ok (.ref l) g')) : wpO (lcRun J tg tYesW te own σ g) P :=
  wp_lc τ (fun w => some (f w)) H hJ hl htg (fun w _ h => by cases h) (fun w hw y e L acc g' H' => by
    cases e
    exact ⟨endsP_ok H', hyes w hw L acc g' H'⟩) fun l g' H' => k l g' (by
      rw [List.filterMap_eq_map'] at H'
      exact H')
end Q
end WL
end
section
set_option maxRecDepth 100000
set_option maxHeartbeats 1000000
namespace WL
namespace Q
open PySem PySem.Spec L2
open PyProof.Rows hiding St
open PySem.Builtin.Str
set_option autoImplicit true
def words_le0 : ED := (eBM "str" ljust2M (eFn F_word (aCons (eBin modF (eFn intF (aCons (eBin addF (eVar 3) (eBin mulF (eVar 4) (eVar 6))) aNil)) (eVar 2)) aNil)) (aCons (eVar 5) (aCons (eC (.str "a")) aNil)))
def m_words : SD := (sSeq (sAsg (eBin mulF (eC (.int 26)) (eBin powF (eC (.int 36)) (eC (.int 7)))) (gNm 2)) (sSeq (sAsg (eFn F_draw (aCons (eVar 0) (aCons (eVar 2) aNil))) (gNm 3)) (sSeq (sAsg (eBin addF (eC (.int 1)) (eFn F_draw (aCons (eVar 0) (aCons (eBin powF (eC (.int 10)) (eC (.int 11))) aNil)))) (gNm 4)) (sSeq (sAsg (eFn F_draw (aCons (eVar 0) (aCons (eC (.int 9)) aNil))) (gNm 5)) (sRet (eLc (iRange1 (aCons (eVar 1) aNil)) (gNm 6) tYesW words_le0 [6]))))))
def f_words : FN := fnW 7 m_words
def F_words : FN := arity 2 f_words
theorem p36_7 {g : G} : powF (.int 36) (.int 7) g = .ok (.int 78364164096) g := by rw [pow_ii (by decide)]; rfl
theorem p10_11 {g : G} : powF (.int 10) (.int 11) g = .ok (.int 100000000000) g := by rw [pow_ii (by decide)]; rfl
theorem m26 {g : G} {i : Int} : mulF (.int 26) (.int i) g = .ok (.int (26 * i)) g := mul_ii (.inl (by decide))
theorem ty_str {g : G} {s : Str} : tyW "str" g (.str s) = true := rfl
theorem ljust_a {g : G} {s : Str} {n : Nat} (h : n ≤ 1000) : ljust2M (.str s) [.int n, .str "a"] g = Out.ok (.str (Txt.ljustF s n 97)) g := by
  unfold ljust2M
  dsimp only
  rw [if_pos ⟨pad_nat h, by decide⟩]
  rfl
theorem F_word_at {g : G} {n : Nat} (hn : n < wmost) : F_word [.int n] g = .ok (.str (word n)) g := word_at (k := 7) (by rw [← wmost_eq]; exact hn) (by decide)
theorem sp_words {g : G} {S : List (Nat × GO)} {p q n : Nat} {ns : List Int} {o : GO} {P : Out W → Prop} (H : Has g S) (i : Nat) (hi : S[i]? = some (p, o)) (j : Nat) (hj : S[j]? = some (q, .lst (ns.map .int))) (ho : PoolOk q ns o) (ij : i ≠ j) (hn : n ≤ 1000)
    (k : ∀ (first gap size : Nat) (o' : GO) (l : Nat) (g' : G), 1 ≤ gap → gap ≤ 10 ^ 11 → first < wmost → size ≤ 8 → PoolOk q ns o' → Has g' ((l, GO.lst ((wordsL first gap size n).map .str)) :: S.set i (p, o')) → P (.ok (.ref l) g')) : wpO (F_words [.ref p, .int n] g) P := by
  have hi1 : ∀ {o' : GO}, (S.set i (p, o'))[i]? = some (p, o') := List.getElem?_set_self (List.getElem?_eq_some_iff.mp hi).1
  have hj1 : ∀ {o' : GO}, (S.set i (p, o'))[j]? = some (q, .lst (ns.map .int)) := by intro o'; rw [List.getElem?_set_ne ij]; exact hj
  show wpO (f_words [.ref p, .int n] g) P
  unfold f_words m_words
  ((try simp only [List.set_cons_zero, List.set_cons_succ, List.eraseIdx_cons_zero, List.eraseIdx_cons_succ, List.cons_append, List.nil_append] at H); have hH := H; (try simp only [has_cons, has_nil, dist_cons, dist_nil, ne_eq, and_true, true_and, List.set_cons_zero, List.set_cons_succ] at hH); simp only [wp_bind, wp_fl, wp_sq, wp_out, wpO_ok, wpO_ex, wpF_nx, wpF_rt, wpF_ex, wpF_bk, wpF_ct, bP_ok, bP_ex, lP_ok, lP_ex, qP_nx, qP_rt, qP_ex, qP_bk, qP_ct, oP_rt, oP_nx, oP_ex, loopP_nx, loopP_ct, loopP_bk, loopP_rt, loopP_ex, tgP_ok, wp_try, tryP_nx, tryP_rt, tryP_ct, tryP_bk, offS_rt, offS_nx, br_t, br_f, e_var0, e_varS, e_c, e_bin, a_nil, a_cons, e_fn, e_tup, asB_bl, t_val, asT_bl, t_tru, t_not, t_and, t_or, e_if, e_and, e_or, e_not, e_chain, e_fld, e_con, e_bm, e_star, WL.Q.pe_lst, pe_dict0, pe_dict0K, pe_meth, meth1_ins, con1_ins, s_seq, s_drop, s_ret, s_if, s_next, s_retN, s_asg, s_for, g_nm, g_sub, s_raise, fn_w, out_rt, out_nx, out_ex, set0, setS, lt_ii, le_ii, gt_ii, ge_ii, sub_ii, add_ii, int_i, eq_ii, ne_ii, sub_ref, sub1_lst, sub1_insF, ixSeq0, ixSeq1, ixSeq2, ixSeq3, sub_tup, set_ref, pset_ek, pset_own, startW, List.map_cons, List.map_nil, List.length_cons, List.length_nil, List.replicate_succ, List.replicate_zero, List.cons_append, List.nil_append, Nat.reduceAdd, Nat.reduceSub, Nat.add_sub_cancel, decide_true, decide_false, Bool.not_true, Bool.not_false, List.length_append, List.set_cons_zero, List.set_cons_succ, Nat.reduceLT, Nat.reduceEqDiff, ↓reduceIte, Nat.zero_ne_one, Nat.one_ne_zero, app_ref, papp1, ty_ref, isL_lst, list_ref, plist1, s_fld, ins_ref, ins1_ins, ps_fld1, putW, fldOf, getW, g_tup2, not_non, not_str, nin_in, in_ref, in1_strs, in1_dT, in1_insF, len_ref1, len1_lst, List.length_map, Nat.zero_add, getD, pe_lc, pi_range1, range1_i, WL.Q.pi_seq, itemsR_ref, items1_lst, itemsR_tup, bind_ok, bind_ex, fl_ok, fl_ex, sq_nx, sq_rt, sq_ex, sq_bk, sq_ct, hH, p36_7, m26]; (try clear hH))
  refine sp_draw H i hi j hj ho (by decide) (by decide) fun first o g hf ho H => ?_
  ((try simp only [List.set_cons_zero, List.set_cons_succ, List.eraseIdx_cons_zero, List.eraseIdx_cons_succ, List.cons_append, List.nil_append] at H); have hH := H; (try simp only [has_cons, has_nil, dist_cons, dist_nil, ne_eq, and_true, true_and, List.set_cons_zero, List.set_cons_succ] at hH); simp only [wp_bind, wp_fl, wp_sq, wp_out, wpO_ok, wpO_ex, wpF_nx, wpF_rt, wpF_ex, wpF_bk, wpF_ct, bP_ok, bP_ex, lP_ok, lP_ex, qP_nx, qP_rt, qP_ex, qP_bk, qP_ct, oP_rt, oP_nx, oP_ex, loopP_nx, loopP_ct, loopP_bk, loopP_rt, loopP_ex, tgP_ok, wp_try, tryP_nx, tryP_rt, tryP_ct, tryP_bk, offS_rt, offS_nx, br_t, br_f, e_var0, e_varS, e_c, e_bin, a_nil, a_cons, e_fn, e_tup, asB_bl, t_val, asT_bl, t_tru, t_not, t_and, t_or, e_if, e_and, e_or, e_not, e_chain, e_fld, e_con, e_bm, e_star, WL.Q.pe_lst, pe_dict0, pe_dict0K, pe_meth, meth1_ins, con1_ins, s_seq, s_drop, s_ret, s_if, s_next, s_retN, s_asg, s_for, g_nm, g_sub, s_raise, fn_w, out_rt, out_nx, out_ex, set0, setS, lt_ii, le_ii, gt_ii, ge_ii, sub_ii, add_ii, int_i, eq_ii, ne_ii, sub_ref, sub1_lst, sub1_insF, ixSeq0, ixSeq1, ixSeq2, ixSeq3, sub_tup, set_ref, pset_ek, pset_own, startW, List.map_cons, List.map_nil, List.length_cons, List.length_nil, List.replicate_succ, List.replicate_zero, List.cons_append, List.nil_append, Nat.reduceAdd, Nat.reduceSub, Nat.add_sub_cancel, decide_true, decide_false, Bool.not_true, Bool.not_false, List.length_append, List.set_cons_zero, List.set_cons_succ, Nat.reduceLT, Nat.reduceEqDiff, ↓reduceIte, Nat.zero_ne_one, Nat.one_ne_zero, app_ref, papp1, ty_ref, isL_lst, list_ref, plist1, s_fld, ins_ref, ins1_ins, ps_fld1, putW, fldOf, getW, g_tup2, not_non, not_str, nin_in, in_ref, in1_strs, in1_dT, in1_insF, len_ref1, len1_lst, List.length_map, Nat.zero_add, getD, pe_lc, pi_range1, range1_i, WL.Q.pi_seq, itemsR_ref, items1_lst, itemsR_tup, bind_ok, bind_ex, fl_ok, fl_ex, sq_nx, sq_rt, sq_ex, sq_bk, sq_ct, hH, p10_11]; (try clear hH))
  refine sp_draw H i hi1 j hj1 ho (by decide) (by decide) fun gap o g hg ho H => ?_
  rw [List.set_set] at H
  ((try simp only [List.set_cons_zero, List.set_cons_succ, List.eraseIdx_cons_zero, List.eraseIdx_cons_succ, List.cons_append, List.nil_append] at H); have hH := H; (try simp only [has_cons, has_nil, dist_cons, dist_nil, ne_eq, and_true, true_and, List.set_cons_zero, List.set_cons_succ] at hH); simp only [wp_bind, wp_fl, wp_sq, wp_out, wpO_ok, wpO_ex, wpF_nx, wpF_rt, wpF_ex, wpF_bk, wpF_ct, bP_ok, bP_ex, lP_ok, lP_ex, qP_nx, qP_rt, qP_ex, qP_bk, qP_ct, oP_rt, oP_nx, oP_ex, loopP_nx, loopP_ct, loopP_bk, loopP_rt, loopP_ex, tgP_ok, wp_try, tryP_nx, tryP_rt, tryP_ct, tryP_bk, offS_rt, offS_nx, br_t, br_f, e_var0, e_varS, e_c, e_bin, a_nil, a_cons, e_fn, e_tup, asB_bl, t_val, asT_bl, t_tru, t_not, t_and, t_or, e_if, e_and, e_or, e_not, e_chain, e_fld, e_con, e_bm, e_star, WL.Q.pe_lst, pe_dict0, pe_dict0K, pe_meth, meth1_ins, con1_ins, s_seq, s_drop, s_ret, s_if, s_next, s_retN, s_asg, s_for, g_nm, g_sub, s_raise, fn_w, out_rt, out_nx, out_ex, set0, setS, lt_ii, le_ii, gt_ii, ge_ii, sub_ii, add_ii, int_i, eq_ii, ne_ii, sub_ref, sub1_lst, sub1_insF, ixSeq0, ixSeq1, ixSeq2, ixSeq3, sub_tup, set_ref, pset_ek, pset_own, startW, List.map_cons, List.map_nil, List.length_cons, List.length_nil, List.replicate_succ, List.replicate_zero, List.cons_append, List.nil_append, Nat.reduceAdd, Nat.reduceSub, Nat.add_sub_cancel, decide_true, decide_false, Bool.not_true, Bool.not_false, List.length_append, List.set_cons_zero, List.set_cons_succ, Nat.reduceLT, Nat.reduceEqDiff, ↓reduceIte, Nat.zero_ne_one, Nat.one_ne_zero, app_ref, papp1, ty_ref, isL_lst, list_ref, plist1, s_fld, ins_ref, ins1_ins, ps_fld1, putW, fldOf, getW, g_tup2, not_non, not_str, nin_in, in_ref, in1_strs, in1_dT, in1_insF, len_ref1, len1_lst, List.length_map, Nat.zero_add, getD, pe_lc, pi_range1, range1_i, WL.Q.pi_seq, itemsR_ref, items1_lst, itemsR_tup, bind_ok, bind_ex, fl_ok, fl_ex, sq_nx, sq_rt, sq_ex, sq_bk, sq_ct, hH, p10_11]; (try clear hH))
  refine sp_draw H i hi1 j hj1 ho (by decide) (by decide) fun size o g hs ho H => ?_
  rw [List.set_set] at H
  ((try simp only [List.set_cons_zero, List.set_cons_succ, List.eraseIdx_cons_zero, List.eraseIdx_cons_succ, List.cons_append, List.nil_append] at H); have hH := H; (try simp only [has_cons, has_nil, dist_cons, dist_nil, ne_eq, and_true, true_and, List.set_cons_zero, List.set_cons_succ] at hH); simp only [wp_bind, wp_fl, wp_sq, wp_out, wpO_ok, wpO_ex, wpF_nx, wpF_rt, wpF_ex, wpF_bk, wpF_ct, bP_ok, bP_ex, lP_ok, lP_ex, qP_nx, qP_rt, qP_ex, qP_bk, qP_ct, oP_rt, oP_nx, oP_ex, loopP_nx, loopP_ct, loopP_bk, loopP_rt, loopP_ex, tgP_ok, wp_try, tryP_nx, tryP_rt, tryP_ct, tryP_bk, offS_rt, offS_nx, br_t, br_f, e_var0, e_varS, e_c, e_bin, a_nil, a_cons, e_fn, e_tup, asB_bl, t_val, asT_bl, t_tru, t_not, t_and, t_or, e_if, e_and, e_or, e_not, e_chain, e_fld, e_con, e_bm, e_star, WL.Q.pe_lst, pe_dict0, pe_dict0K, pe_meth, meth1_ins, con1_ins, s_seq, s_drop, s_ret, s_if, s_next, s_retN, s_asg, s_for, g_nm, g_sub, s_raise, fn_w, out_rt, out_nx, out_ex, set0, setS, lt_ii, le_ii, gt_ii, ge_ii, sub_ii, add_ii, int_i, eq_ii, ne_ii, sub_ref, sub1_lst, sub1_insF, ixSeq0, ixSeq1, ixSeq2, ixSeq3, sub_tup, set_ref, pset_ek, pset_own, startW, List.map_cons, List.map_nil, List.length_cons, List.length_nil, List.replicate_succ, List.replicate_zero, List.cons_append, List.nil_append, Nat.reduceAdd, Nat.reduceSub, Nat.add_sub_cancel, decide_true, decide_false, Bool.not_true, Bool.not_false, List.length_append, List.set_cons_zero, List.set_cons_succ, Nat.reduceLT, Nat.reduceEqDiff, ↓reduceIte, Nat.zero_ne_one, Nat.one_ne_zero, app_ref, papp1, ty_ref, isL_lst, list_ref, plist1, s_fld, ins_ref, ins1_ins, ps_fld1, putW, fldOf, getW, g_tup2, not_non, not_str, nin_in, in_ref, in1_strs, in1_dT, in1_insF, len_ref1, len1_lst, List.length_map, Nat.zero_add, getD, pe_lc, pi_range1, range1_i, WL.Q.pi_seq, itemsR_ref, items1_lst, itemsR_tup, bind_ok, bind_ex, fl_ok, fl_ex, sq_nx, sq_rt, sq_ex, sq_bk, sq_ct, hH, small_nat hn]; (try clear hH))
  have hf' : first < wmost := by
    have e := wmost_int
    omega
  refine wp_lcMap (fun w => [some (.ref p), some (.int n), some (.int (26 * 78364164096)), some (.int first), some (.int (1 + gap)), some (.int size), some w]) (fun w => match w with | .int i => .str (wordL first (1 + gap) size i.toNat) | _ => .non) H True.intro (by rw [range_ws]; simp; omega) (fun w _ g' => rfl) (fun w hw L acc g' H => ?_) fun l g' H => ?_
  · rw [range_ws] at hw
    obtain ⟨i, hi, rfl⟩ := List.mem_map.mp hw
    have hi' : i < n := by simpa using hi
    have e1 : ((first : Int) + (1 + (gap : Int)) * (i : Int)) % (26 * 78364164096) = (((first + (1 + gap) * i) % wmost : Nat) : Int) := by
      rw [← wmost_int]
      push_cast
      rfl
    unfold words_le0
    ((try simp only [List.set_cons_zero, List.set_cons_succ, List.eraseIdx_cons_zero, List.eraseIdx_cons_succ, List.cons_append, List.nil_append] at H); have hH := H; (try simp only [has_cons, has_nil, dist_cons, dist_nil, ne_eq, and_true, true_and, List.set_cons_zero, List.set_cons_succ] at hH); simp only [wp_bind, wp_fl, wp_sq, wp_out, wpO_ok, wpO_ex, wpF_nx, wpF_rt, wpF_ex, wpF_bk, wpF_ct, bP_ok, bP_ex, lP_ok, lP_ex, qP_nx, qP_rt, qP_ex, qP_bk, qP_ct, oP_rt, oP_nx, oP_ex, loopP_nx, loopP_ct, loopP_bk, loopP_rt, loopP_ex, tgP_ok, wp_try, tryP_nx, tryP_rt, tryP_ct, tryP_bk, offS_rt, offS_nx, br_t, br_f, e_var0, e_varS, e_c, e_bin, a_nil, a_cons, e_fn, e_tup, asB_bl, t_val, asT_bl, t_tru, t_not, t_and, t_or, e_if, e_and, e_or, e_not, e_chain, e_fld, e_con, e_bm, e_star, WL.Q.pe_lst, pe_dict0, pe_dict0K, pe_meth, meth1_ins, con1_ins, s_seq, s_drop, s_ret, s_if, s_next, s_retN, s_asg, s_for, g_nm, g_sub, s_raise, fn_w, out_rt, out_nx, out_ex, set0, setS, lt_ii, le_ii, gt_ii, ge_ii, sub_ii, add_ii, int_i, eq_ii, ne_ii, sub_ref, sub1_lst, sub1_insF, ixSeq0, ixSeq1, ixSeq2, ixSeq3, sub_tup, set_ref, pset_ek, pset_own, startW, List.map_cons, List.map_nil, List.length_cons, List.length_nil, List.replicate_succ, List.replicate_zero, List.cons_append, List.nil_append, Nat.reduceAdd, Nat.reduceSub, Nat.add_sub_cancel, decide_true, decide_false, Bool.not_true, Bool.not_false, List.length_append, List.set_cons_zero, List.set_cons_succ, Nat.reduceLT, Nat.reduceEqDiff, ↓reduceIte, Nat.zero_ne_one, Nat.one_ne_zero, app_ref, papp1, ty_ref, isL_lst, list_ref, plist1, s_fld, ins_ref, ins1_ins, ps_fld1, putW, fldOf, getW, g_tup2, not_non, not_str, nin_in, in_ref, in1_strs, in1_dT, in1_insF, len_ref1, len1_lst, List.length_map, Nat.zero_add, getD, pe_lc, pi_range1, range1_i, WL.Q.pi_seq, itemsR_ref, items1_lst, itemsR_tup, bind_ok, bind_ex, fl_ok, fl_ex, sq_nx, sq_rt, sq_ex, sq_bk, sq_ct, hH, mul_ii (g := g') (i := 1 + (gap : Int)) (j := (i : Int)) (.inr ⟨by omega, by omega⟩), mod_ii (show (0 : Int) < 26 * 78364164096 by decide), e1, F_word_at (Nat.mod_lt (first + (1 + gap) * i) wmost_pos), ty_str, ljust_a (show size ≤ 1000 by omega)]; (try clear hH))
    exact endsP_ok H
  · refine k first (1 + gap) size o l g' (by omega) (by omega) hf' (by omega) ho ?_
    have e : (rangeI 0 (n : Int)).ws.map (fun w => match w with | .int i => W.str (wordL first (1 + gap) size i.toNat) | _ => .non) = (wordsL first (1 + gap) size n).map .str := by
      rw [range_ws]
      unfold wordsL
      rw [List.map_map, List.map_map]
      rfl
    rw [e] at H
    exact H
end Q
end WL
end
section
set_option maxRecDepth 100000
set_option maxHeartbeats 1000000
namespace WL
namespace Q
open PySem PySem.Spec L2
open PyProof.Rows hiding St
open PySem.Builtin.Str
set_option autoImplicit true
/-- a chart among the told objects: itself, its list, its table -/
structure Ch (S : List (Nat × GO)) (ic il ie c ln le : Nat) (wide : Int) (start : Str) (nodes : List Str) (edges : List (List Key × W)) : Prop where
  hc : S[ic]? = some (c, insC wide start ln le)
  hl : S[il]? = some (ln, GO.lst (nodes.map W.str))
  he : S[ie]? = some (le, GO.dT edges)
/-- every value of the table is an edge -/
def EdgesOk (edges : List (List Key × W)) : Prop := ∀ k w, getK k edges = some w → ∃ (name : Str) (t : Option Str), w = .tup [.str name, tgW t] ∧ Nm name ∧ TgOk t
section
variable {g : G} {S : List (Nat × GO)} {ic il ie c ln le : Nat} {wide : Int} {start : Str} {nodes : List Str} {edges : List (List Key × W)} {P : Out W → Prop}
theorem Ch.at (C : Ch S ic il ie c ln le wide start nodes edges) (H : Has g S) : ChartAt g c ln le wide start nodes edges := ⟨H.get C.hc, H.get C.hl, H.get C.he⟩
theorem Ch.cons {p : Nat × GO} (C : Ch S ic il ie c ln le wide start nodes edges) : Ch (p :: S) (ic + 1) (il + 1) (ie + 1) c ln le wide start nodes edges := ⟨C.hc, C.hl, C.he⟩
theorem sp_init {w : Nat} {s : Str} (H : Has g S) (h1 : 1 ≤ w) (h4 : w ≤ 4) (h : Nm s)
    (k : ∀ c ln le g', Has g' ((c, insC w s ln le) :: (ln, GO.lst [.str s]) :: (le, GO.dT []) :: S) → P (.ok (.ref c) g')) : wpO (arity 2 (mkW 0 f_Chart_init) [.int w, .str s] g) P := by
  refine wpO_of (init_at (show (1 : Int) ≤ w by omega) (show (w : Int) ≤ 4 by omega) h) (k g.length (g.length + 2) (g.length + 3) _ ?_)
  refine ⟨by rw [app_get0]; rfl, ⟨by omega, by omega, H.fresh (by omega)⟩, ⟨by rw [app_getk]; rfl, ⟨by omega, H.fresh (by omega)⟩, ⟨by rw [app_getk]; rfl, H.fresh (by omega), H.app⟩⟩⟩
theorem sp_set {out : Nat} {node name : Str} {tg : Option Str} (H : Has g S) (C : Ch S ic il ie c ln le wide start nodes edges) (hn : Nm node) (hm : Nm name) (ht : TgOk tg) (h1 : (out : Int) < wide) (hl : nodes.length ≤ 1000) (he : edges.length ≤ 1000)
    (k1 : 16 < (grown nodes node tg).length → ∀ g', Has g' S → P (.ex 5 [(7, .int 16)] g'))
    (k2 : (grown nodes node tg).length ≤ 16 → ∀ ln' g', Has g' ((ln', GO.lst ((grown nodes node tg).map W.str)) :: (S.set ic (c, insC wide start ln' le)).set ie (le, GO.dT (putKW (ek node out) (.tup [.str name, tgW tg]) edges))) → P (.ok .non g')) :
    wpO (F_Chart_setitem [.ref c, .tup [.str node, .int out], .tup [.str name, tgW tg]] g) P := by
  obtain ⟨a, b⟩ := set_at (out := (out : Int)) (C.at H) hn hm ht (by omega) h1 hl he
  by_cases h : 16 < (grown nodes node tg).length
  · obtain ⟨e, he⟩ := a (by omega)
    exact wpO_of he (k1 h _ H.app)
  · obtain ⟨e, e2, he⟩ := b (by omega)
    refine wpO_of he (k2 (by omega) (g.length + 2) _ ?_)
    have ne : ic ≠ ie := fun z => by
      have := C.hc
      rw [z, C.he] at this
      cases this
    have hie : (S.set ic (c, insC wide start (g.length + 2) le))[ie]? = some (le, GO.dT edges) := by rw [List.getElem?_set_ne ne]; exact C.he
    have H2 := (H.set (u := insC wide start (g.length + 2) le) C.hc).set (u := GO.dT (putKW (ek node out) (.tup [.str name, tgW tg]) edges)) hie
    refine ⟨?_, H2.fresh (by simp), H2.app⟩
    rw [List.getElem?_append_right (by simp), List.length_set, List.length_set, Nat.add_sub_cancel_left]
    exact e2
theorem sp_get {out : Nat} {node : Str} {w : W} (H : Has g S) (C : Ch S ic il ie c ln le wide start nodes edges) (hn : node ∈ nodes) (h1 : (out : Int) < wide) (hk : getK (ek node out) edges = some w) (k : P (.ok w g)) :
    wpO (F_Chart_getitem [.ref c, .tup [.str node, .int out]] g) P := wpO_of (get_at (C.at H) hn (by omega) h1 hk) k
theorem sp_step {out : Nat} {node : Str} {w : W} (H : Has g S) (C : Ch S ic il ie c ln le wide start nodes edges) (hn : node ∈ nodes) (h1 : (out : Int) < wide) (hk : getK (ek node out) edges = some w) (k : P (.ok w g)) :
    wpO (F_Chart_step [.ref c, .str node, .int out] g) P := wpO_of (step_at (C.at H) hn (by omega) h1 hk) k
theorem sp_contains {s : Str} (H : Has g S) (C : Ch S ic il ie c ln le wide start nodes edges) (k : P (.ok (.bl (decide (s ∈ nodes))) g)) : wpO (F_Chart_contains [.ref c, .str s] g) P := wpO_of (contains_at (C.at H)) k
theorem sp_len (H : Has g S) (C : Ch S ic il ie c ln le wide start nodes edges) (k : P (.ok (.int nodes.length) g)) : wpO (F_Chart_len [.ref c] g) P := wpO_of (len_at (C.at H)) k
theorem sp_start (H : Has g S) (C : Ch S ic il ie c ln le wide start nodes edges) (k : P (.ok (.str start) g)) : wpO (F_Chart_start [.ref c] g) P := wpO_of (start_at (C.at H)) k
theorem sp_begin (H : Has g S) (C : Ch S ic il ie c ln le wide start nodes edges) (k : P (.ok (.str start) g)) : wpO (F_Chart_begin [.ref c] g) P := wpO_of (begin_at (C.at H)) k
end
theorem fits4 : fits 4 = true := rfl
theorem edges_inner {g : G} {c ln le wide : Nat} {start s : Str} {nodes : List Str} {edges : List (List Key × W)} (C : ChartAt g c ln le (wide : Int) start nodes edges) (hE : EdgesOk edges) (acc : List W) (hl2 : acc.length + (rangeI 0 (wide : Int)).ws.length ≤ 1000000) :
    lcGo (rangeI 0 wide) (gNm 2) (tVal (eBin (inF []) (eTup (aCons (eVar 1) (aCons (eVar 2) aNil))) (eFld 3 (eVar 0)))) Chart_edges_le0 [2] [some (.ref c), some (.str s), none] g.length (rangeI 0 wide).ws (g ++ [GO.lst acc]) = Out.ok () (g ++ [GO.lst (acc ++ outE wide edges s)]) := by
  have hc : ∀ e, (g ++ e)[c]? = some (insC wide start ln le) := fun e => app_old C.ins
  have lf := lc_filter (J := rangeI 0 wide) (tg := gNm 2) (tt := tVal (eBin (inF []) (eTup (aCons (eVar 1) (aCons (eVar 2) aNil))) (eFld 3 (eVar 0)))) (te := Chart_edges_le0) (own := [2]) (σ := [some (.ref c), some (.str s), none]) (g1 := g)
    (f := fun w => match w with | .int k => W.tup (W.str s :: W.int k :: tupOf ((getK (ek s k) edges).getD .non)) | _ => .non) (p := fun w => match w with | .int k => (getK (ek s k) edges).isSome | _ => false) True.intro (rangeI 0 wide).ws acc hl2 (fun w hw2 acc => by
      rw [range_ws] at hw2
      obtain ⟨k, hk, rfl⟩ := List.mem_map.mp hw2
      refine ⟨[some (.ref c), some (.str s), some (.int k)], rfl, ?_, fun hp => ?_⟩
      · simp only [bind_ok, bind_ex, fl_ok, fl_ex, sq_nx, sq_rt, sq_ex, sq_bk, sq_ct, br_t, br_f, e_var0, e_varS, e_c, e_bin, a_nil, a_cons, e_fn, e_tup, e_lst, asB_bl, t_val, asT_bl, t_tru, t_not, t_and, t_or, e_if, e_and, e_or, e_not, e_chain, e_fld, e_meth, e_con, e_bm, e_star, s_seq, s_drop, s_ret, s_if, s_next, s_retN, s_asg, g_nm, g_sub, s_raise, fn_w, out_rt, out_nx, out_ex, set0, setS, lt_ii, le_ii, gt_ii, ge_ii, sub_ii, add_ii, int_i, eq_ii, ne_ii, sub_ref, sub1_lst, ixSeq0, ixSeq1, ixSeq2, ixSeq3, set_ref, set1_1, set1_2, set1_3, startW, List.map_cons, List.map_nil, List.length_cons, List.length_nil, List.replicate_succ, List.replicate_zero, List.cons_append, List.nil_append, Nat.reduceAdd, Nat.reduceSub, Nat.add_sub_cancel, decide_true, decide_false, Bool.not_true, Bool.not_false, s_fld, ins_ref, List.append_assoc, app_get0, app_getk, app_set0, app_setk, List.getElem?_cons_zero, ins1_ins, fld1_some, putW, e_dict0, List.length_append, List.set_cons_zero, List.set_cons_succ, List.getElem?_cons_succ, Nat.reduceLT, Nat.reduceEqDiff, ↓reduceIte, Nat.zero_ne_one, Nat.one_ne_zero, g_tup2, app_ref, app1_lst, ty_ref, isL_lst, list_ref, list1_lst, not_non, not_str, Nat.zero_add, nin_ref, nin1_strs, snoc_get, len_ref1, len1_lst, List.length_map, fits2', hc, fldOf, getW, in_dT (node := s) (out := (k : Int)) (app_old (e := [GO.lst acc]) C.edges)]
      · dsimp only at hp
        cases hg : getK (ek s (k : Int)) edges with
        | none => rw [hg] at hp; cases hp
        | some w =>
          obtain ⟨nm, t, rfl, _⟩ := hE _ _ hg
          unfold Chart_edges_le0
          have hs : seqAt (g ++ [GO.lst acc]) (.tup [.str nm, tgW t]) = some [.str nm, tgW t] := rfl
          simp only [bind_ok, bind_ex, fl_ok, fl_ex, sq_nx, sq_rt, sq_ex, sq_bk, sq_ct, br_t, br_f, e_var0, e_varS, e_c, e_bin, a_nil, a_cons, e_fn, e_tup, e_lst, asB_bl, t_val, asT_bl, t_tru, t_not, t_and, t_or, e_if, e_and, e_or, e_not, e_chain, e_fld, e_meth, e_con, e_bm, e_star, s_seq, s_drop, s_ret, s_if, s_next, s_retN, s_asg, g_nm, g_sub, s_raise, fn_w, out_rt, out_nx, out_ex, set0, setS, lt_ii, le_ii, gt_ii, ge_ii, sub_ii, add_ii, int_i, eq_ii, ne_ii, sub_ref, sub1_lst, ixSeq0, ixSeq1, ixSeq2, ixSeq3, set_ref, set1_1, set1_2, set1_3, startW, List.map_cons, List.map_nil, List.length_cons, List.length_nil, List.replicate_succ, List.replicate_zero, List.cons_append, List.nil_append, Nat.reduceAdd, Nat.reduceSub, Nat.add_sub_cancel, decide_true, decide_false, Bool.not_true, Bool.not_false, s_fld, ins_ref, List.append_assoc, app_get0, app_getk, app_set0, app_setk, List.getElem?_cons_zero, ins1_ins, fld1_some, putW, e_dict0, List.length_append, List.set_cons_zero, List.set_cons_succ, List.getElem?_cons_succ, Nat.reduceLT, Nat.reduceEqDiff, ↓reduceIte, Nat.zero_ne_one, Nat.one_ne_zero, g_tup2, app_ref, app1_lst, ty_ref, isL_lst, list_ref, list1_lst, not_non, not_str, Nat.zero_add, nin_ref, nin1_strs, snoc_get, len_ref1, len1_lst, List.length_map, fits2', hc, fldOf, getW, sub_dT (d := []) (node := s) (out := (k : Int)) (app_old (e := [GO.lst acc]) C.edges) hg, hs, fits4, hg]
          rfl)
  have e : (((rangeI 0 (wide : Int)).ws.filter fun w => match w with | .int k => (getK (ek s k) edges).isSome | _ => false).map fun w => match w with | .int k => W.tup (W.str s :: W.int k :: tupOf ((getK (ek s k) edges).getD .non)) | _ => .non) = outE wide edges s := by
    rw [range_ws]
    unfold outE edgeW
    rw [List.filter_map, List.map_map]
    rfl
  rw [lf, e]
theorem outE_len {wide : Nat} {edges : List (List Key × W)} {s : Str} : (outE wide edges s).length ≤ wide := by
  unfold outE
  rw [List.length_map]
  exact Nat.le_trans (List.length_filter_le _ _) (by simp)
theorem edges_at {g : G} {c ln le wide : Nat} {start : Str} {nodes : List Str} {edges : List (List Key × W)} (C : ChartAt g c ln le (wide : Int) start nodes edges) (hw : wide ≤ 4) (hl : nodes.length ≤ 100) (hE : EdgesOk edges) : f_Chart_edges [.ref c] g = Out.ok (.ref g.length) (g ++ [GO.lst (edgesL wide nodes edges)]) := by
  have hc : ∀ e, (g ++ e)[c]? = some (insC wide start ln le) := fun e => app_old C.ins
  have key := lc2_flat (J := ⟨nodes.map W.str, some ln⟩) (tg := gNm 1) (i1 := iRange1 (aCons (eFld 0 (eVar 0)) aNil)) (tg1 := gNm 2) (tt1 := tVal (eBin (inF []) (eTup (aCons (eVar 1) (aCons (eVar 2) aNil))) (eFld 3 (eVar 0)))) (te := Chart_edges_le0) (own := [1, 2]) (vs1 := [2]) (σ := [some (.ref c), none, none]) (g1 := g)
    (out := fun w => match w with | .str s => outE wide edges s | _ => []) C.nodes (nodes.map W.str) [] (fun w hw' acc => by
      obtain ⟨s, hs, rfl⟩ := List.mem_map.mp hw'
      refine ⟨[some (.ref c), some (.str s), none], rangeI 0 wide, rfl, ?_, fun hl2 => edges_inner C hE acc hl2, ?_, ?_⟩
      · simp only [bind_ok, bind_ex, fl_ok, fl_ex, sq_nx, sq_rt, sq_ex, sq_bk, sq_ct, br_t, br_f, e_var0, e_varS, e_c, e_bin, a_nil, a_cons, e_fn, e_tup, e_lst, asB_bl, t_val, asT_bl, t_tru, t_not, t_and, t_or, e_if, e_and, e_or, e_not, e_chain, e_fld, e_meth, e_con, e_bm, e_star, s_seq, s_drop, s_ret, s_if, s_next, s_retN, s_asg, g_nm, g_sub, s_raise, fn_w, out_rt, out_nx, out_ex, set0, setS, lt_ii, le_ii, gt_ii, ge_ii, sub_ii, add_ii, int_i, eq_ii, ne_ii, sub_ref, sub1_lst, ixSeq0, ixSeq1, ixSeq2, ixSeq3, set_ref, set1_1, set1_2, set1_3, startW, List.map_cons, List.map_nil, List.length_cons, List.length_nil, List.replicate_succ, List.replicate_zero, List.cons_append, List.nil_append, Nat.reduceAdd, Nat.reduceSub, Nat.add_sub_cancel, decide_true, decide_false, Bool.not_true, Bool.not_false, s_fld, ins_ref, List.append_assoc, app_get0, app_getk, app_set0, app_setk, List.getElem?_cons_zero, ins1_ins, fld1_some, putW, e_dict0, List.length_append, List.set_cons_zero, List.set_cons_succ, List.getElem?_cons_succ, Nat.reduceLT, Nat.reduceEqDiff, ↓reduceIte, Nat.zero_ne_one, Nat.one_ne_zero, g_tup2, app_ref, app1_lst, ty_ref, isL_lst, list_ref, list1_lst, not_non, not_str, Nat.zero_add, nin_ref, nin1_strs, snoc_get, len_ref1, len1_lst, List.length_map, pi_range1, range1_i, hc, fldOf, getW, small_nat (show wide ≤ 1000 by omega)]
      · rw [range_ws]; simp; omega
      · exact Nat.le_trans outE_len (by omega)) (by simp; omega)
  unfold f_Chart_edges m_Chart_edges
  simp only [bind_ok, bind_ex, fl_ok, fl_ex, sq_nx, sq_rt, sq_ex, sq_bk, sq_ct, br_t, br_f, e_var0, e_varS, e_c, e_bin, a_nil, a_cons, e_fn, e_tup, e_lst, asB_bl, t_val, asT_bl, t_tru, t_not, t_and, t_or, e_if, e_and, e_or, e_not, e_chain, e_fld, e_meth, e_con, e_bm, e_star, s_seq, s_drop, s_ret, s_if, s_next, s_retN, s_asg, g_nm, g_sub, s_raise, fn_w, out_rt, out_nx, out_ex, set0, setS, lt_ii, le_ii, gt_ii, ge_ii, sub_ii, add_ii, int_i, eq_ii, ne_ii, sub_ref, sub1_lst, ixSeq0, ixSeq1, ixSeq2, ixSeq3, set_ref, set1_1, set1_2, set1_3, startW, List.map_cons, List.map_nil, List.length_cons, List.length_nil, List.replicate_succ, List.replicate_zero, List.cons_append, List.nil_append, Nat.reduceAdd, Nat.reduceSub, Nat.add_sub_cancel, decide_true, decide_false, Bool.not_true, Bool.not_false, s_fld, ins_ref, List.append_assoc, app_get0, app_getk, app_set0, app_setk, List.getElem?_cons_zero, ins1_ins, fld1_some, putW, e_dict0, List.length_append, List.set_cons_zero, List.set_cons_succ, List.getElem?_cons_succ, Nat.reduceLT, Nat.reduceEqDiff, ↓reduceIte, Nat.zero_ne_one, Nat.one_ne_zero, g_tup2, app_ref, app1_lst, ty_ref, isL_lst, list_ref, list1_lst, not_non, not_str, Nat.zero_add, nin_ref, nin1_strs, snoc_get, len_ref1, len1_lst, List.length_map, e_lc2, i_seq, C.ins, fldOf, getW, items_ref C.nodes, key]
  rw [List.flatMap_map]
  rfl
section
variable {g : G} {S : List (Nat × GO)} {ic il ie c ln le wide : Nat} {start : Str} {nodes : List Str} {edges : List (List Key × W)} {P : Out W → Prop}
theorem sp_edges (H : Has g S) (C : Ch S ic il ie c ln le (wide : Int) start nodes edges) (hw : wide ≤ 4) (hl : nodes.length ≤ 100) (hE : EdgesOk edges) (k : ∀ l g', Has g' ((l, GO.lst (edgesL wide nodes edges)) :: S) → P (.ok (.ref l) g')) : wpO (F_Chart_edges [.ref c] g) P :=
  wpO_of (edges_at (C.at H) hw hl hE) (k _ _ H.new)
theorem sp_missing (H : Has g S) (C : Ch S ic il ie c ln le (wide : Int) start nodes edges) (hw : wide ≤ 4) (hl : nodes.length ≤ 100) (k : ∀ l g', Has g' ((l, GO.lst (missL wide nodes edges)) :: S) → P (.ok (.ref l) g')) : wpO (F_Chart_missing [.ref c] g) P :=
  wpO_of (missing_at (C.at H) hw hl) (k _ _ H.new)
end
def natC (w : W) (g : G) : Out W := match w with
  | .int n => br (nat62 n) (.ok (.int n) g) .bad
  | _ => .bad
def lenO1 (d : Disp) (l : Nat) (g : G) (o : Option GO) : Out W := match o with
  | some (.ins c fs) => match getD c d with
    | some F => (F [.ref l] g).bind natC
    | none => lenF [.ref l] g
  | _ => lenF [.ref l] g
theorem lenO_ref {d : Disp} {l : Nat} {g : G} : lenOF d [.ref l] g = lenO1 d l g (g[l]?) := by
  cases h : g[l]? with
  | none => simp only [lenOF, ownF, insAt, h, lenO1]
  | some o =>
    cases o with
    | ins c fs =>
      simp only [lenOF, ownF, insAt, h, lenO1]
      cases getD c d with
      | none => rfl
      | some F =>
        dsimp only
        cases F [.ref l] g with
        | ok w g' => cases w <;> rfl
        | _ => rfl
    | _ => simp only [lenOF, ownF, insAt, h, lenO1]
theorem lenO1_ins {d : Disp} {l c : Nat} {fs} {g : G} : lenO1 d l g (some (.ins c fs)) = match getD c d with
    | some F => (F [.ref l] g).bind natC
    | none => lenF [.ref l] g := (rfl)
theorem natC_int {n : Int} {g : G} : natC (.int n) g = br (nat62 n) (.ok (.int n) g) .bad := (rfl)
theorem nat62_nat {n : Nat} (h : n < 1000000) : nat62 (n : Int) = true := decide_eq_true ⟨by omega, by omega⟩
theorem sp_listC {g : G} {S : List (Nat × GO)} {ic il ie c ln le : Nat} {wide : Int} {start : Str} {nodes : List Str} {edges : List (List Key × W)} {P : Out W → Prop} (H : Has g S) (C : Ch S ic il ie c ln le wide start nodes edges) (hl : nodes.length ≤ 1000)
    (k : ∀ l g', Has g' ((l, GO.lst (nodes.map W.str)) :: S) → P (.ok (.ref l) g')) : wpO (listOF [(0, F_Chart_len)] [(0, 2)] [.ref c] g) P := by
  have A := C.at H
  have A' : ChartAt (g ++ [GO.lst []]) c ln le wide start nodes edges := C.at H.app
  have hl1 : F_Chart_len [.ref c] (g ++ [GO.lst []]) = Out.ok (.int nodes.length) (g ++ [GO.lst []]) := len_at A'
  have ho : ownList [(0, 2)] g (.ref c) = some (ln, nodes.map W.str) := by
    simp [ownList, insAt, A.ins, getN, getW, A.nodes]
  have hw : ownF [(0, F_Chart_len)] g (.ref c) = some F_Chart_len := by
    simp [ownF, insAt, A.ins, WL.getD]
  refine wpO_of ?_ (k _ _ H.new)
  unfold listOF
  dsimp only
  rw [ho]
  dsimp only
  rw [hw]
  dsimp only
  rw [hl1]
  dsimp only
  rw [nat62_nat (by omega)]
  simp
end Q
end WL
end
section
set_option maxRecDepth 100000
set_option maxHeartbeats 1000000
namespace WL
namespace Q
open PySem PySem.Spec L2
open PyProof.Rows hiding St
open PySem.Builtin.Str
set_option autoImplicit true
def isB (b : Option Bool) (g : G) : Out W := match b with
  | some b => .ok (.bl b) g
  | none => .bad
def isR (t : IsTab) (g : G) (x : W) : Out W := isB (isW t g x) g
theorem pe_is {t : IsTab} {a : ED} {σ : Sg} {g : G} : eIs t a σ g = (a σ g).bind fun x g => isR t g x := by
  unfold eIs isR isB
  rfl
theorem isB_some {b : Bool} {g : G} : isB (some b) g = .ok (.bl b) g := (rfl)
theorem isR_tup {t : IsTab} {g : G} {ws : List W} : isR t g (.tup ws) = isB (getT "tuple" t.bi) g := (rfl)
theorem isR_int {t : IsTab} {g : G} {i : Int} : isR t g (.int i) = isB (getT "int" t.bi) g := (rfl)
theorem isR_str {t : IsTab} {g : G} {s : Str} : isR t g (.str s) = isB (getT "str" t.bi) g := (rfl)
theorem isR_bl {t : IsTab} {g : G} {b : Bool} : isR t g (.bl b) = isB (getT "bool" t.bi) g := (rfl)
theorem isR_non {t : IsTab} {g : G} : isR t g .non = isB (getT "NoneType" t.bi) g := (rfl)
def isR1 (t : IsTab) (g : G) (o : Option GO) : Out W := match o with
  | some (.lst _) => isB (getT "list" t.bi) g
  | some (.dK _) => isB (getT "dict" t.bi) g
  | some (.dT _) => isB (getT "dict" t.bi) g
  | some (.ins c _) => isB (getB c t.own) g
  | none => .bad
theorem isR_ref {t : IsTab} {g : G} {l : Nat} : isR t g (.ref l) = isR1 t g (g[l]?) := by
  simp only [isR, isW, insAt, tyN]
  cases g[l]? with
  | none => rfl
  | some o => cases o <;> rfl
theorem isR1_lst {t : IsTab} {g : G} {ws : List W} : isR1 t g (some (.lst ws)) = isB (getT "list" t.bi) g := (rfl)
theorem isR1_ins {t : IsTab} {g : G} {c fs} : isR1 t g (some (.ins c fs)) = isB (getB c t.own) g := (rfl)
def noX (r : Out W) : Out W := match r with
  | .ok w g => .ok w g
  | _ => .bad
def prop1 (d : Disp) (x : W) (g : G) (o : Option (Nat × Nat × List (Nat × W))) : Out W := match o with
  | some (_, c, _) => match getD c d with
    | some F => noX (F [x] g)
    | none => .bad
  | none => .bad
theorem pe_prop {d : Disp} {a : ED} {σ : Sg} {g : G} : eProp d a σ g = (a σ g).bind fun x g => prop1 d x g (insAt g x) := by
  unfold eProp prop1 noX
  rfl
theorem prop1_ins {d : Disp} {x : W} {g : G} {l c fs} : prop1 d x g (some (l, c, fs)) = match getD c d with
    | some F => noX (F [x] g)
    | none => .bad := (rfl)
def nP (P : Out W → Prop) : Out W → Prop
  | .ok w g => P (.ok w g)
  | _ => P .bad
theorem wp_noX {r : Out W} {P} : wpO (noX r) P = wpO r (nP P) := by cases r <;> rfl
theorem nP_ok {P w g} : nP P (.ok w g) = P (.ok w g) := (rfl)
theorem not_bl {a b : Bool} {g : G} : notNF (.bl a) (.bl b) g = .ok (.bl (!decide (a = b))) g := (rfl)
theorem is_non {g : G} : isNF .non .non g = .ok (.bl true) g := (rfl)
theorem is_str {g : G} {s : Str} : isNF (.str s) .non g = .ok (.bl false) g := (rfl)
theorem is_bl {a b : Bool} {g : G} : isNF (.bl a) (.bl b) g = .ok (.bl (decide (a = b))) g := (rfl)
theorem notnon_bl {a : Bool} {g : G} : notNF (.bl a) .non g = .ok (.bl true) g := (rfl)
theorem isnon_bl {a : Bool} {g : G} : isNF (.bl a) .non g = .ok (.bl false) g := (rfl)
theorem notnon_ref {l : Nat} {g : G} : notNF (.ref l) .non g = .ok (.bl true) g := (rfl)
theorem isnon_ref {l : Nat} {g : G} : isNF (.ref l) .non g = .ok (.bl false) g := (rfl)
theorem is_tg {t : Option Str} {g : G} : isNF (tgW t) .non g = .ok (.bl t.isNone) g := by cases t <;> rfl
theorem not_tg {t : Option Str} {g : G} : notNF (tgW t) .non g = .ok (.bl t.isSome) g := by cases t <;> rfl
theorem eq_bb {g : G} {a b : Bool} : eqF (.bl a) (.bl b) g = .ok (.bl (decide (a = b))) g := by
  cases a <;> cases b <;> rfl
theorem ne_bb {g : G} {a b : Bool} : neF (.bl a) (.bl b) g = .ok (.bl (!decide (a = b))) g := by
  cases a <;> cases b <;> rfl
theorem eq_ss {g : G} {a b : Str} (ha : PySem.PyData.strOk a = true) (hb : PySem.PyData.strOk b = true) : eqF (.str a) (.str b) g = .ok (.bl (decide (a = b))) g := by
  simp [eqF, toD, toDg, SeqAt.shaped, PyData.canLay0, PyData.depth, PyData.eqv, ha, hb]
  by_cases h : a = b <;> simp [h]
theorem ne_ss {g : G} {a b : Str} (ha : PySem.PyData.strOk a = true) (hb : PySem.PyData.strOk b = true) : neF (.str a) (.str b) g = .ok (.bl (!decide (a = b))) g := by
  simp [neF, toD, toDg, SeqAt.shaped, PyData.canLay0, PyData.depth, PyData.eqv, ha, hb]
  by_cases h : a = b <;> simp [h]
theorem xi {c : Nat} {tab : List (Nat × Bool)} {σ : Sg} {g : G} : eXi c tab σ g = isB (getB c tab) g := (rfl)
theorem xf {c : Nat} {ok : List Nat} {f : Nat} {fs : List (Nat × W)} {σ : Sg} {g : G} (h : ok.contains c = true) {w : W} (hw : getW f fs = some w) : eXf c ok f fs σ g = .ok w g := by
  unfold eXf
  rw [if_pos h, hw]
def dget (o : Option W) (g : G) : Out W := match o with
  | some w => .ok w g
  | none => .bad
theorem dget_some {w : W} {g : G} : dget (some w) g = .ok w g := (rfl)
theorem psub_ek {d : Disp} {l : Nat} {g : G} {node : Str} {out : Int} {kvs : List (List Key × W)} : sub1 d l (.tup [.str node, .int out]) g (some (GO.dT kvs)) = dget (getK (ek node out) kvs) g := by
  have e : keysW (.tup [.str node, .int out]) = some (ek node out) := rfl
  simp only [sub1, e]
  cases getK (ek node out) kvs <;> rfl
theorem list_scr {ns : List Int} {g : G} : listF [.scr ns] g = alloc (.lst (ns.map .int)) g := (rfl)
theorem list_tup {ws : List W} {g : G} : listF [.tup ws] g = alloc (.lst ws) g := (rfl)
/-- an object is put into another one's place among those that are told -/
theorem Dist.repl {m l : Nat} {o : GO} : ∀ {S : List (Nat × GO)} (i : Nat), m ≠ l → Dist m S → Dist m (S.set i (l, o))
  | [], _, _, h => h
  | _ :: S, 0, e, h => ⟨e, h.2⟩
  | _ :: S, i + 1, e, h => ⟨h.1, Dist.repl i e h.2⟩
theorem Has.repl {g : G} {l : Nat} {o : GO} : ∀ {S : List (Nat × GO)} (i : Nat), Has g ((l, o) :: S) → Has g (S.set i (l, o))
  | [], _, h => True.intro
  | (k, u) :: S, 0, h => ⟨h.1, h.2.1.2, h.2.2.2.2⟩
  | (k, u) :: S, i + 1, h => ⟨h.2.2.1, h.2.2.2.1.repl i (fun z => h.2.1.1 z.symm), Has.repl i ⟨h.1, h.2.1.2, h.2.2.2.2⟩⟩
/-- names by number -/
theorem ix_words {first gap size n d : Nat} {g : G} (h : d < n) : ixSeq ((wordsL first gap size n).map W.str) (.int d) g = .ok (.str (wordL first gap size d)) g := ixSeq_get (by simp [wordsL, h])
theorem ix_words0 {first gap size n : Nat} {g : G} (h : 0 < n) : ixSeq ((wordsL first gap size n).map W.str) (.int 0) g = .ok (.str (wordL first gap size 0)) g := ix_words (d := 0) h
theorem ix_words1 {first gap size n : Nat} {g : G} (h : 1 < n) : ixSeq ((wordsL first gap size n).map W.str) (.int 1) g = .ok (.str (wordL first gap size 1)) g := ix_words (d := 1) h
theorem ixSeq_last {ws : List W} {w : W} {g : G} (h : ws.getLast? = some w) : ixSeq ws (.int (-1)) g = .ok w g := by
  have hl : 0 < ws.length := by
    cases ws with
    | nil => cases h
    | cons a l => simp
  have e : ixN ws.length (-1) = some (ws.length - 1) := by
    unfold ixN
    rw [if_neg (by decide), if_pos (by omega)]
    congr 1
    omega
  unfold ixSeq atI
  dsimp only
  rw [e]
  dsimp only [Option.bind]
  rw [List.getLast?_eq_getElem?] at h
  simp [h]
/-- the i-th of a walked list of names -/
theorem map_str_get {l : List Str} {i : Nat} {w : W} (h : (l.map W.str)[i]? = some w) : ∃ s, l[i]? = some s ∧ w = .str s := by
  rw [List.getElem?_map, Option.map_eq_some_iff] at h
  obtain ⟨s, a, b⟩ := h
  exact ⟨s, a, b.symm⟩
theorem range_get {n i : Nat} {w : W} (h : (rangeI 0 (n : Int)).ws[i]? = some w) : i < n ∧ w = .int (i : Nat) := by
  rw [range_ws, List.getElem?_map, Option.map_eq_some_iff] at h
  obtain ⟨s, a, b⟩ := h
  obtain ⟨h1, h2⟩ := List.getElem?_eq_some_iff.mp a
  have h1 : i < n := by simpa using h1
  have h2 : i = s := by simpa using h2
  subst h2
  exact ⟨h1, b.symm⟩
theorem range_len {n : Nat} : (rangeI 0 (n : Int)).ws.length = n := by rw [range_ws]; simp
theorem grown_nm {nodes : List Str} {node : Str} {t : Option Str} (h : ∀ s ∈ nodes, Nm s) (hn : Nm node) (ht : TgOk t) : ∀ s ∈ grown nodes node t, Nm s := by
  have g1 : ∀ {l : List Str} {x : Str}, (∀ s ∈ l, Nm s) → Nm x → ∀ s ∈ grow1 l x, Nm s := fun {l x} hl hx s hs => by
    unfold grow1 at hs
    split at hs
    · exact hl s hs
    · rcases List.mem_append.mp hs with q | q
      · exact hl s q
      · rw [List.mem_singleton.mp q]; exact hx
  unfold grown
  cases t with
  | none => exact g1 h hn
  | some s => exact g1 (g1 h hn) ht
theorem grow1_mem {l : List Str} {x s : Str} : s ∈ grow1 l x ↔ s ∈ l ∨ s = x := by
  unfold grow1
  split
  · rename_i h
    constructor
    · exact .inl
    · rintro (q | rfl)
      · exact q
      · exact h
  · rw [List.mem_append, List.mem_singleton]
theorem grown_node {nodes : List Str} {node : Str} {t : Option Str} : node ∈ grown nodes node t := by
  unfold grown
  cases t with
  | none => exact grow1_mem.mpr (.inr rfl)
  | some s => exact grow1_mem.mpr (.inl (grow1_mem.mpr (.inr rfl)))
theorem grown_old {nodes : List Str} {node : Str} {t : Option Str} {s : Str} (h : s ∈ nodes) : s ∈ grown nodes node t := by
  unfold grown
  cases t with
  | none => exact grow1_mem.mpr (.inl h)
  | some s => exact grow1_mem.mpr (.inl (grow1_mem.mpr (.inl h)))
theorem grow1_nodup {l : List Str} {x : Str} (h : l.Nodup) : (grow1 l x).Nodup := by
  unfold grow1
  split
  · exact h
  · rename_i hx
    rw [List.nodup_append]
    exact ⟨h, by simp, fun a ha b hb e => hx (by rw [List.mem_singleton] at hb; rw [← hb, ← e]; exact ha)⟩
theorem grown_nodup {l : List Str} {x : Str} {t : Option Str} (h : l.Nodup) : (grown l x t).Nodup := by
  unfold grown
  cases t with
  | none => exact grow1_nodup h
  | some s => exact grow1_nodup (grow1_nodup h)
theorem grow1_len {l : List Str} {x : Str} : (grow1 l x).length ≤ l.length + 1 := by
  unfold grow1
  split <;> simp
theorem grown_len {l : List Str} {x : Str} {t : Option Str} : (grown l x t).length ≤ l.length + 2 := by
  unfold grown
  cases t with
  | none => exact Nat.le_trans grow1_len (by omega)
  | some s => exact Nat.le_trans grow1_len (Nat.succ_le_succ grow1_len)
section
variable {κ : Type} [DecidableEq κ]
theorem getK_put {k : κ} {w : W} : ∀ {l : List (κ × W)}, getK k (putKW k w l) = some w
  | [] => by simp [putKW, getK]
  | (j, x) :: l => by
    unfold putKW
    split
    · rename_i h; simp [getK, h]
    · rename_i h; rw [getK, if_neg h]; exact getK_put
theorem getK_put_ne {k j : κ} {w : W} (h : j ≠ k) : ∀ {l : List (κ × W)}, getK j (putKW k w l) = getK j l
  | [] => by simp [putKW, getK, h.symm]
  | (i, x) :: l => by
    unfold putKW
    split
    · rename_i e
      subst e
      rw [getK, getK, if_neg h.symm, if_neg h.symm]
    · rw [getK, getK, getK_put_ne h]
theorem putKW_len {k : κ} {w : W} : ∀ {l : List (κ × W)}, (putKW k w l).length ≤ l.length + 1
  | [] => by simp [putKW]
  | (j, x) :: l => by
    unfold putKW
    split
    · simp
    · have := putKW_len (k := k) (w := w) (l := l)
      simp; omega
end
theorem EdgesOk.nil : EdgesOk [] := fun k w h => by cases h
theorem EdgesOk.put {edges : List (List Key × W)} {k : List Key} {name : Str} {t : Option Str} (h : EdgesOk edges) (hn : Nm name) (ht : TgOk t) : EdgesOk (putKW k (.tup [.str name, tgW t]) edges) := fun j w e => by
  by_cases q : j = k
  · subst q
    rw [getK_put] at e
    cases e
    exact ⟨name, t, rfl, hn, ht⟩
  · rw [getK_put_ne q] at e
    exact h j w e
end Q
end WL
end
section
set_option maxRecDepth 100000
set_option maxHeartbeats 1000000
namespace WL
namespace Q
open PySem PySem.Spec L2
open PyProof.Rows hiding St
open PySem.Builtin.Str
set_option autoImplicit true
theorem Dist.mem {m : Nat} {S : List (Nat × GO)} (h : Dist m S) {p : Nat × GO} (hp : p ∈ S) : m ≠ p.1 := Dist.keys.mp h p hp
theorem Has.snoc {g : G} {l : Nat} {o : GO} : ∀ {S : List (Nat × GO)}, Has g S → g[l]? = some o → (∀ p ∈ S, p.1 ≠ l) → Has g (S ++ [(l, o)])
  | [], _, e, _ => ⟨e, True.intro, True.intro⟩
  | (k, u) :: S, h, e, d => ⟨h.1, by
      show Dist k (S ++ [(l, o)])
      rw [Dist.app]
      exact ⟨h.2.1, d (k, u) List.mem_cons_self, True.intro⟩, Has.snoc h.2.2 e fun p hp => d p (List.mem_cons_of_mem _ hp)⟩
/-- the first of the told objects is told last -/
theorem Has.rot {g : G} {l : Nat} {o : GO} {S : List (Nat × GO)} (h : Has g ((l, o) :: S)) : Has g (S ++ [(l, o)]) := h.2.2.snoc h.1 fun p hp => (h.2.1.mem hp).symm
theorem Has.mem {g : G} {S : List (Nat × GO)} (h : Has g S) {l : Nat} {o : GO} (hp : (l, o) ∈ S) : g[l]? = some o := by
  obtain ⟨i, hi⟩ := List.mem_iff_getElem?.mp hp
  exact h.get hi
/-- the i-th is told first -/
theorem Has.front {g : G} : ∀ {S : List (Nat × GO)} {i l : Nat} {o : GO}, Has g S → S[i]? = some (l, o) → Has g ((l, o) :: S.eraseIdx i)
  | [], _, _, _, _, e => by cases e
  | (k, u) :: S, 0, _, _, h, e => by cases e; exact h
  | (k, u) :: S, i + 1, l, o, h, e => by
    have h2 := Has.front (i := i) h.2.2 e
    have ne : k ≠ l := Dist.get (i := i) h.2.1 e
    exact ⟨h2.1, ⟨ne.symm, h2.2.1⟩, h.1, h.2.1.erase i, h2.2.2⟩
theorem wp_lcI {α : Type} {J : Items} {tg : GD} {te : ED} {own : List Nat} {σ : Sg} {g : G} {P : Out W → Prop} (Sf : α → List (Nat × GO)) (acc : α → List W) (I : Nat → α → Prop) (τ : W → Sg) (a0 : α) (H : Has g (Sf a0)) (h0 : I 0 a0) (ha0 : acc a0 = []) (hJ : ∀ a, StillS J (Sf a)) (hl : J.ws.length ≤ 1000000)
    (htg : ∀ w ∈ J.ws, ∀ g', tg w (wipeW σ own) g' = .ok (τ w) g')
    (step : ∀ i w a, J.ws[i]? = some w → I i a → ∀ L g', Has g' ((L, GO.lst (acc a)) :: Sf a) → wpO (te (τ w) g') (fun r => ∃ y g2 a', r = .ok y g2 ∧ Has g2 ((L, GO.lst (acc a)) :: Sf a') ∧ acc a' = acc a ++ [y] ∧ I (i + 1) a'))
    (k : ∀ l g' a, I J.ws.length a → Has g' ((l, GO.lst (acc a)) :: Sf a) → P (.ok (.ref l) g')) : wpO (lcRun J tg tYesW te own σ g) P := by
  have key : ∀ (ws : List W) (n : Nat) (L : Nat) (a : α) (g : G), (∀ i, ws[i]? = J.ws[n + i]?) → n + ws.length = J.ws.length → (acc a).length + ws.length ≤ 1000000 → I n a → Has g ((L, GO.lst (acc a)) :: Sf a) → ∃ g' a', lcGo J tg tYesW te own σ L ws g = .ok () g' ∧ I J.ws.length a' ∧ Has g' ((L, GO.lst (acc a')) :: Sf a') := by
    intro ws
    induction ws with
    | nil =>
      intro n L a g _ hn _ hI H
      have : n = J.ws.length := by simpa using hn
      subst this
      refine ⟨g, a, ?_, hI, H⟩
      unfold lcGo
      rw [if_pos ((hJ a).cons.st H)]
    | cons w ws ih =>
      intro n L a g hw hn hl2 hI H
      have hw0 : J.ws[n]? = some w := by have := hw 0; simpa using this.symm
      have hlen : (w :: ws).length = ws.length + 1 := rfl
      obtain ⟨y, g2, a', e, H2, ea, hI2⟩ := step n w a hw0 hI L g H
      unfold lcGo
      rw [if_pos ((hJ a).cons.st H), htg w (List.mem_of_getElem? hw0)]
      dsimp only
      have ht : tYesW (τ w) g = Out.ok true g := rfl
      rw [ht]
      dsimp only
      rw [e]
      dsimp only
      have eap : appL L y g2 = some (g2.set L (.lst (acc a'))) := by
        unfold appL
        rw [H2.1]
        dsimp only
        rw [if_pos (fits_of (by omega)), ea]
      rw [eap]
      dsimp only
      have hlen2 : (acc a').length = (acc a).length + 1 := by rw [ea]; simp
      exact ih (n + 1) L a' _ (fun i => by
        have := hw (i + 1)
        rw [show n + 1 + i = n + (i + 1) by omega]
        simpa using this) (by omega) (by omega) hI2 (H2.set (i := 0) rfl)
  unfold lcRun
  obtain ⟨g', a', e, hI, H'⟩ := key J.ws 0 g.length a0 (g ++ [.lst []]) (fun i => by rw [Nat.zero_add]) (Nat.zero_add _) (by rw [ha0]; simpa using hl) h0 (by rw [ha0]; exact H.new)
  rw [e]
  exact k _ _ _ hI H'
abbrev Cell := Option (Nat × Int)
def cellW : Cell → W
  | none => .non
  | some (a, t) => .tup [.int a, .int t]
def rowW (row : List Cell) : GO := .lst (row.map cellW)
def rowsPart : List Nat → List (List Cell) → List (Nat × GO)
  | r :: rs, row :: rows => (r, rowW row) :: rowsPart rs rows
  | _, _ => []
theorem rowsPart_get : ∀ {refs : List Nat} {rows : List (List Cell)} {k r : Nat} {row : List Cell}, refs[k]? = some r → rows[k]? = some row → (rowsPart refs rows)[k]? = some (r, rowW row)
  | [], _, _, _, _, e, _ => by cases e
  | _ :: _, [], _, _, _, _, e => by cases e
  | _ :: _, _ :: _, 0, _, _, e, e' => by cases e; cases e'; rfl
  | _ :: refs, _ :: rows, k + 1, _, _, e, e' => rowsPart_get (refs := refs) (rows := rows) (k := k) e e'
theorem rowsPart_snoc {r : Nat} {row : List Cell} : ∀ {refs : List Nat} {rows : List (List Cell)}, refs.length = rows.length → rowsPart (refs ++ [r]) (rows ++ [row]) = rowsPart refs rows ++ [(r, rowW row)]
  | [], [], _ => rfl
  | [], _ :: _, h => by cases h
  | _ :: _, [], h => by cases h
  | a :: refs, b :: rows, h => by
    have := rowsPart_snoc (r := r) (row := row) (refs := refs) (rows := rows) (by simpa using h)
    simp only [List.cons_append, rowsPart, this]
theorem rowsPart_set {r : Nat} {row : List Cell} : ∀ {refs : List Nat} {rows : List (List Cell)} (k : Nat), (rowsPart refs rows).set k (r, rowW row) = rowsPart (refs.set k r) (rows.set k row)
  | [], _, _ => rfl
  | _ :: _, [], 0 => rfl
  | _ :: _, [], _ + 1 => rfl
  | _ :: _, _ :: _, 0 => rfl
  | a :: refs, b :: rows, k + 1 => by
    have := rowsPart_set (r := r) (row := row) (refs := refs) (rows := rows) k
    simp only [rowsPart, List.set_cons_succ, this]
theorem rowsPart_len : ∀ {refs : List Nat} {rows : List (List Cell)}, refs.length = rows.length → (rowsPart refs rows).length = rows.length
  | [], [], _ => rfl
  | [], _ :: _, h => by cases h
  | _ :: _, [], h => by cases h
  | _ :: refs, _ :: rows, h => by
    have := rowsPart_len (refs := refs) (rows := rows) (by simpa using h)
    simp [rowsPart, this]
def CellOk (count : Nat) : Cell → Prop
  | none => True
  | some (a, t) => a < 4 ∧ -1 ≤ t ∧ t < count
structure RowsOk (count wide : Nat) (rows : List (List Cell)) : Prop where
  len : rows.length = count
  wid : ∀ row ∈ rows, row.length = wide
  cell : ∀ row ∈ rows, ∀ c ∈ row, CellOk count c
/-- no cell is empty -/
def Full (rows : List (List Cell)) : Prop := ∀ row ∈ rows, ∀ c ∈ row, c ≠ none
def rows_le0 : ED := (eTup (aCons (eFn F_draw (aCons (eVar 0) (aCons (eVar 5) aNil))) (aCons (eBin subF (eFn F_draw (aCons (eVar 0) (aCons (eBin addF (eVar 4) (eC (.int 1))) aNil))) (eC (.int 1))) aNil)))
def rows_fb1 : SD := (sDrop (eBM "list" appendM (eVar 6) (aCons (eLc (iRange1 (aCons (eVar 3) aNil)) (gNm 8) tYesW rows_le0 [8]) aNil)))
def rows_r2 : SD := (sRet (eVar 6))
def m_rows : SD := (sSeq (sAsg (eBin addF (eC (.int 1)) (eBin modF (eFn intF (aCons (eBin addF (eFn F_draw (aCons (eVar 0) (aCons (eC (.int 4)) aNil))) (eC (.int 1))) aNil)) (eC (.int 4)))) (gNm 3)) (sSeq (sAsg (eBin addF (eC (.int 1)) (eFn F_draw (aCons (eVar 0) (aCons (eFn minF (aCons (eVar 1) (aCons (eBin fdivF (eVar 2) (eVar 3)) aNil))) aNil)))) (gNm 4)) (sSeq (sAsg (eBin addF (eC (.int 1)) (eFn F_draw (aCons (eVar 0) (aCons (eC (.int 4)) aNil)))) (gNm 5)) (sSeq (sAsg (eLst aNil) (gNm 6)) (sSeq (sFor (iRange1 (aCons (eVar 4) aNil)) (gNm 7) rows_fb1) rows_r2)))))
def f_rows : FN := fnW 9 m_rows
def F_rows : FN := arity 3 f_rows
theorem min_ii {g : G} {i j : Int} : minF [.int i, .int j] g = .ok (.int (if j < i then j else i)) g := rfl
theorem set_idx {S : List (Nat × GO)} {i : Nat} {x y : Nat × GO} (h : S[i]? = some x) : (S.set i y)[i]? = some y := List.getElem?_set_self (List.getElem?_eq_some_iff.mp h).1
theorem set_oth {S : List (Nat × GO)} {i j : Nat} {y : Nat × GO} (h : i ≠ j) : (S.set i y)[j]? = S[j]? := List.getElem?_set_ne h
theorem app_idx {S S' : List (Nat × GO)} {i : Nat} {x : Nat × GO} (h : S[i]? = some x) : (S ++ S')[i]? = some x := by
  rw [List.getElem?_append_left (List.getElem?_eq_some_iff.mp h).1]; exact h
theorem app_setL {S S' : List (Nat × GO)} {i : Nat} {x y : Nat × GO} (h : S[i]? = some x) : (S ++ S').set i y = S.set i y ++ S' := List.set_append_left _ _ (List.getElem?_eq_some_iff.mp h).1
theorem sp_rows {g : G} {S : List (Nat × GO)} {p q most edges : Nat} {ns : List Int} {o : GO} {P : Out W → Prop} (H : Has g S) (i : Nat) (hi : S[i]? = some (p, o)) (j : Nat) (hj : S[j]? = some (q, .lst (ns.map .int))) (ho : PoolOk q ns o) (ij : i ≠ j) (hm1 : 1 ≤ most) (hm2 : most ≤ 1000) (he1 : 4 ≤ edges) (he2 : edges ≤ 1000)
    (k : ∀ (wide count : Nat) (rows : List (List Cell)) (refs : List Nat) (o' : GO) (l : Nat) (g' : G), 1 ≤ wide → wide ≤ 4 → 1 ≤ count → count ≤ most → count * wide ≤ edges → RowsOk count wide rows → Full rows → refs.length = count → PoolOk q ns o' →
      Has g' ((l, GO.lst (refs.map .ref)) :: (S.set i (p, o') ++ rowsPart refs rows)) → P (.ok (.ref l) g')) : wpO (F_rows [.ref p, .int most, .int edges] g) P := by
  show wpO (f_rows [.ref p, .int most, .int edges] g) P
  unfold f_rows m_rows
  ((try simp only [List.set_cons_zero, List.set_cons_succ, List.eraseIdx_cons_zero, List.eraseIdx_cons_succ, List.cons_append, List.nil_append] at H); have hH := H; (try simp only [has_cons, has_nil, dist_cons, dist_nil, ne_eq, and_true, true_and, List.set_cons_zero, List.set_cons_succ] at hH); simp only [wp_bind, wp_fl, wp_sq, wp_out, wpO_ok, wpO_ex, wpF_nx, wpF_rt, wpF_ex, wpF_bk, wpF_ct, bP_ok, bP_ex, lP_ok, lP_ex, qP_nx, qP_rt, qP_ex, qP_bk, qP_ct, oP_rt, oP_nx, oP_ex, loopP_nx, loopP_ct, loopP_bk, loopP_rt, loopP_ex, tgP_ok, wp_try, tryP_nx, tryP_rt, tryP_ct, tryP_bk, offS_rt, offS_nx, br_t, br_f, e_var0, e_varS, e_c, e_bin, a_nil, a_cons, e_fn, e_tup, asB_bl, t_val, asT_bl, t_tru, t_not, t_and, t_or, e_if, e_and, e_or, e_not, e_chain, e_fld, e_con, e_bm, e_star, WL.Q.pe_lst, pe_dict0, pe_dict0K, pe_meth, meth1_ins, con1_ins, s_seq, s_drop, s_ret, s_if, s_next, s_retN, s_asg, s_for, g_nm, g_sub, s_raise, fn_w, out_rt, out_nx, out_ex, set0, setS, lt_ii, le_ii, gt_ii, ge_ii, sub_ii, add_ii, int_i, eq_ii, ne_ii, sub_ref, sub1_lst, sub1_insF, ixSeq0, ixSeq1, ixSeq2, ixSeq3, sub_tup, set_ref, pset_ek, pset_own, startW, List.map_cons, List.map_nil, List.length_cons, List.length_nil, List.replicate_succ, List.replicate_zero, List.cons_append, List.nil_append, Nat.reduceAdd, Nat.reduceSub, Nat.add_sub_cancel, decide_true, decide_false, Bool.not_true, Bool.not_false, List.length_append, List.set_cons_zero, List.set_cons_succ, Nat.reduceLT, Nat.reduceEqDiff, ↓reduceIte, Nat.zero_ne_one, Nat.one_ne_zero, app_ref, papp1, ty_ref, isL_lst, list_ref, plist1, s_fld, ins_ref, ins1_ins, ps_fld1, putW, fldOf, getW, g_tup2, not_non, not_str, nin_in, in_ref, in1_strs, in1_dT, in1_insF, len_ref1, len1_lst, List.length_map, Nat.zero_add, getD, pe_lc, pi_range1, range1_i, WL.Q.pi_seq, itemsR_ref, items1_lst, itemsR_tup, lenO_ref, lenO1_ins, natC_int, pe_is, isB_some, isR_tup, isR_int, isR_str, isR_bl, isR_non, isR_ref, isR1_lst, isR1_ins, WL.Q.pe_prop, prop1_ins, wp_noX, nP_ok, not_bl, is_non, is_str, is_bl, notnon_bl, isnon_bl, notnon_ref, isnon_ref, is_tg, not_tg, eq_bb, ne_bb, xi, dget_some, psub_ek, list_scr, list_tup, bind_ok, bind_ex, fl_ok, fl_ex, sq_nx, sq_rt, sq_ex, sq_bk, sq_ct, hH]; (try clear hH))
  refine sp_draw H i hi j hj ho (by decide) (by decide) fun d1 o g hd1 ho H => ?_
  have e1 : (1 : Int) + ((d1 : Int) + 1) % 4 = ((1 + (d1 + 1) % 4 : Nat) : Int) := by omega
  generalize hwd : 1 + (d1 + 1) % 4 = wide at e1
  have hw1 : 1 ≤ wide := by omega
  have hw4 : wide ≤ 4 := by omega
  have e2 : (edges : Int) / (wide : Int) = ((edges / wide : Nat) : Int) := by omega
  have e3 : (if ((edges / wide : Nat) : Int) < (most : Int) then ((edges / wide : Nat) : Int) else (most : Int)) = ((min most (edges / wide) : Nat) : Int) := by
    split <;> omega
  have hdv : 1 ≤ edges / wide := (Nat.le_div_iff_mul_le (by omega)).mpr (by omega)
  generalize hmn : min most (edges / wide) = mn at e3
  ((try simp only [List.set_cons_zero, List.set_cons_succ, List.eraseIdx_cons_zero, List.eraseIdx_cons_succ, List.cons_append, List.nil_append] at H); have hH := H; (try simp only [has_cons, has_nil, dist_cons, dist_nil, ne_eq, and_true, true_and, List.set_cons_zero, List.set_cons_succ] at hH); simp only [wp_bind, wp_fl, wp_sq, wp_out, wpO_ok, wpO_ex, wpF_nx, wpF_rt, wpF_ex, wpF_bk, wpF_ct, bP_ok, bP_ex, lP_ok, lP_ex, qP_nx, qP_rt, qP_ex, qP_bk, qP_ct, oP_rt, oP_nx, oP_ex, loopP_nx, loopP_ct, loopP_bk, loopP_rt, loopP_ex, tgP_ok, wp_try, tryP_nx, tryP_rt, tryP_ct, tryP_bk, offS_rt, offS_nx, br_t, br_f, e_var0, e_varS, e_c, e_bin, a_nil, a_cons, e_fn, e_tup, asB_bl, t_val, asT_bl, t_tru, t_not, t_and, t_or, e_if, e_and, e_or, e_not, e_chain, e_fld, e_con, e_bm, e_star, WL.Q.pe_lst, pe_dict0, pe_dict0K, pe_meth, meth1_ins, con1_ins, s_seq, s_drop, s_ret, s_if, s_next, s_retN, s_asg, s_for, g_nm, g_sub, s_raise, fn_w, out_rt, out_nx, out_ex, set0, setS, lt_ii, le_ii, gt_ii, ge_ii, sub_ii, add_ii, int_i, eq_ii, ne_ii, sub_ref, sub1_lst, sub1_insF, ixSeq0, ixSeq1, ixSeq2, ixSeq3, sub_tup, set_ref, pset_ek, pset_own, startW, List.map_cons, List.map_nil, List.length_cons, List.length_nil, List.replicate_succ, List.replicate_zero, List.cons_append, List.nil_append, Nat.reduceAdd, Nat.reduceSub, Nat.add_sub_cancel, decide_true, decide_false, Bool.not_true, Bool.not_false, List.length_append, List.set_cons_zero, List.set_cons_succ, Nat.reduceLT, Nat.reduceEqDiff, ↓reduceIte, Nat.zero_ne_one, Nat.one_ne_zero, app_ref, papp1, ty_ref, isL_lst, list_ref, plist1, s_fld, ins_ref, ins1_ins, ps_fld1, putW, fldOf, getW, g_tup2, not_non, not_str, nin_in, in_ref, in1_strs, in1_dT, in1_insF, len_ref1, len1_lst, List.length_map, Nat.zero_add, getD, pe_lc, pi_range1, range1_i, WL.Q.pi_seq, itemsR_ref, items1_lst, itemsR_tup, lenO_ref, lenO1_ins, natC_int, pe_is, isB_some, isR_tup, isR_int, isR_str, isR_bl, isR_non, isR_ref, isR1_lst, isR1_ins, WL.Q.pe_prop, prop1_ins, wp_noX, nP_ok, not_bl, is_non, is_str, is_bl, notnon_bl, isnon_bl, notnon_ref, isnon_ref, is_tg, not_tg, eq_bb, ne_bb, xi, dget_some, psub_ek, list_scr, list_tup, bind_ok, bind_ex, fl_ok, fl_ex, sq_nx, sq_rt, sq_ex, sq_bk, sq_ct, hH, mod_ii (show (0 : Int) < 4 by decide), e1, div_ii (show (0 : Int) < (wide : Int) by omega) (show (wide : Int) < 2 ^ 100 by omega), e2, min_ii, e3]; (try clear hH))
  refine sp_draw H i (set_idx hi) j (by rw [set_oth ij]; exact hj) ho (by omega) (by omega) fun d2 o g hd2 ho H => ?_
  rw [List.set_set] at H
  have e4 : (1 : Int) + (d2 : Int) = ((1 + d2 : Nat) : Int) := by omega
  generalize hcn : 1 + d2 = count at e4
  ((try simp only [List.set_cons_zero, List.set_cons_succ, List.eraseIdx_cons_zero, List.eraseIdx_cons_succ, List.cons_append, List.nil_append] at H); have hH := H; (try simp only [has_cons, has_nil, dist_cons, dist_nil, ne_eq, and_true, true_and, List.set_cons_zero, List.set_cons_succ] at hH); simp only [wp_bind, wp_fl, wp_sq, wp_out, wpO_ok, wpO_ex, wpF_nx, wpF_rt, wpF_ex, wpF_bk, wpF_ct, bP_ok, bP_ex, lP_ok, lP_ex, qP_nx, qP_rt, qP_ex, qP_bk, qP_ct, oP_rt, oP_nx, oP_ex, loopP_nx, loopP_ct, loopP_bk, loopP_rt, loopP_ex, tgP_ok, wp_try, tryP_nx, tryP_rt, tryP_ct, tryP_bk, offS_rt, offS_nx, br_t, br_f, e_var0, e_varS, e_c, e_bin, a_nil, a_cons, e_fn, e_tup, asB_bl, t_val, asT_bl, t_tru, t_not, t_and, t_or, e_if, e_and, e_or, e_not, e_chain, e_fld, e_con, e_bm, e_star, WL.Q.pe_lst, pe_dict0, pe_dict0K, pe_meth, meth1_ins, con1_ins, s_seq, s_drop, s_ret, s_if, s_next, s_retN, s_asg, s_for, g_nm, g_sub, s_raise, fn_w, out_rt, out_nx, out_ex, set0, setS, lt_ii, le_ii, gt_ii, ge_ii, sub_ii, add_ii, int_i, eq_ii, ne_ii, sub_ref, sub1_lst, sub1_insF, ixSeq0, ixSeq1, ixSeq2, ixSeq3, sub_tup, set_ref, pset_ek, pset_own, startW, List.map_cons, List.map_nil, List.length_cons, List.length_nil, List.replicate_succ, List.replicate_zero, List.cons_append, List.nil_append, Nat.reduceAdd, Nat.reduceSub, Nat.add_sub_cancel, decide_true, decide_false, Bool.not_true, Bool.not_false, List.length_append, List.set_cons_zero, List.set_cons_succ, Nat.reduceLT, Nat.reduceEqDiff, ↓reduceIte, Nat.zero_ne_one, Nat.one_ne_zero, app_ref, papp1, ty_ref, isL_lst, list_ref, plist1, s_fld, ins_ref, ins1_ins, ps_fld1, putW, fldOf, getW, g_tup2, not_non, not_str, nin_in, in_ref, in1_strs, in1_dT, in1_insF, len_ref1, len1_lst, List.length_map, Nat.zero_add, getD, pe_lc, pi_range1, range1_i, WL.Q.pi_seq, itemsR_ref, items1_lst, itemsR_tup, lenO_ref, lenO1_ins, natC_int, pe_is, isB_some, isR_tup, isR_int, isR_str, isR_bl, isR_non, isR_ref, isR1_lst, isR1_ins, WL.Q.pe_prop, prop1_ins, wp_noX, nP_ok, not_bl, is_non, is_str, is_bl, notnon_bl, isnon_bl, notnon_ref, isnon_ref, is_tg, not_tg, eq_bb, ne_bb, xi, dget_some, psub_ek, list_scr, list_tup, bind_ok, bind_ex, fl_ok, fl_ex, sq_nx, sq_rt, sq_ex, sq_bk, sq_ct, hH, e4]; (try clear hH))
  refine sp_draw H i (set_idx hi) j (by rw [set_oth ij]; exact hj) ho (by decide) (by decide) fun d3 o g hd3 ho H => ?_
  rw [List.set_set] at H
  have hc1 : 1 ≤ count := by omega
  have hcm : count ≤ most := by omega
  have hce : count * wide ≤ edges := by
    have : count ≤ edges / wide := by omega
    exact Nat.le_trans (Nat.mul_le_mul_right _ this) (Nat.div_mul_le_self _ _)
  ((try simp only [List.set_cons_zero, List.set_cons_succ, List.eraseIdx_cons_zero, List.eraseIdx_cons_succ, List.cons_append, List.nil_append] at H); have hH := H; (try simp only [has_cons, has_nil, dist_cons, dist_nil, ne_eq, and_true, true_and, List.set_cons_zero, List.set_cons_succ] at hH); simp only [wp_bind, wp_fl, wp_sq, wp_out, wpO_ok, wpO_ex, wpF_nx, wpF_rt, wpF_ex, wpF_bk, wpF_ct, bP_ok, bP_ex, lP_ok, lP_ex, qP_nx, qP_rt, qP_ex, qP_bk, qP_ct, oP_rt, oP_nx, oP_ex, loopP_nx, loopP_ct, loopP_bk, loopP_rt, loopP_ex, tgP_ok, wp_try, tryP_nx, tryP_rt, tryP_ct, tryP_bk, offS_rt, offS_nx, br_t, br_f, e_var0, e_varS, e_c, e_bin, a_nil, a_cons, e_fn, e_tup, asB_bl, t_val, asT_bl, t_tru, t_not, t_and, t_or, e_if, e_and, e_or, e_not, e_chain, e_fld, e_con, e_bm, e_star, WL.Q.pe_lst, pe_dict0, pe_dict0K, pe_meth, meth1_ins, con1_ins, s_seq, s_drop, s_ret, s_if, s_next, s_retN, s_asg, s_for, g_nm, g_sub, s_raise, fn_w, out_rt, out_nx, out_ex, set0, setS, lt_ii, le_ii, gt_ii, ge_ii, sub_ii, add_ii, int_i, eq_ii, ne_ii, sub_ref, sub1_lst, sub1_insF, ixSeq0, ixSeq1, ixSeq2, ixSeq3, sub_tup, set_ref, pset_ek, pset_own, startW, List.map_cons, List.map_nil, List.length_cons, List.length_nil, List.replicate_succ, List.replicate_zero, List.cons_append, List.nil_append, Nat.reduceAdd, Nat.reduceSub, Nat.add_sub_cancel, decide_true, decide_false, Bool.not_true, Bool.not_false, List.length_append, List.set_cons_zero, List.set_cons_succ, Nat.reduceLT, Nat.reduceEqDiff, ↓reduceIte, Nat.zero_ne_one, Nat.one_ne_zero, app_ref, papp1, ty_ref, isL_lst, list_ref, plist1, s_fld, ins_ref, ins1_ins, ps_fld1, putW, fldOf, getW, g_tup2, not_non, not_str, nin_in, in_ref, in1_strs, in1_dT, in1_insF, len_ref1, len1_lst, List.length_map, Nat.zero_add, getD, pe_lc, pi_range1, range1_i, WL.Q.pi_seq, itemsR_ref, items1_lst, itemsR_tup, lenO_ref, lenO1_ins, natC_int, pe_is, isB_some, isR_tup, isR_int, isR_str, isR_bl, isR_non, isR_ref, isR1_lst, isR1_ins, WL.Q.pe_prop, prop1_ins, wp_noX, nP_ok, not_bl, is_non, is_str, is_bl, notnon_bl, isnon_bl, notnon_ref, isnon_ref, is_tg, not_tg, eq_bb, ne_bb, xi, dget_some, psub_ek, list_scr, list_tup, bind_ok, bind_ex, fl_ok, fl_ex, sq_nx, sq_rt, sq_ex, sq_bk, sq_ct, hH, show fits 0 = true from rfl]; (try clear hH))
  refine wp_alloc H fun lr g H => ?_
  ((try simp only [List.set_cons_zero, List.set_cons_succ, List.eraseIdx_cons_zero, List.eraseIdx_cons_succ, List.cons_append, List.nil_append] at H); have hH := H; (try simp only [has_cons, has_nil, dist_cons, dist_nil, ne_eq, and_true, true_and, List.set_cons_zero, List.set_cons_succ] at hH); simp only [wp_bind, wp_fl, wp_sq, wp_out, wpO_ok, wpO_ex, wpF_nx, wpF_rt, wpF_ex, wpF_bk, wpF_ct, bP_ok, bP_ex, lP_ok, lP_ex, qP_nx, qP_rt, qP_ex, qP_bk, qP_ct, oP_rt, oP_nx, oP_ex, loopP_nx, loopP_ct, loopP_bk, loopP_rt, loopP_ex, tgP_ok, wp_try, tryP_nx, tryP_rt, tryP_ct, tryP_bk, offS_rt, offS_nx, br_t, br_f, e_var0, e_varS, e_c, e_bin, a_nil, a_cons, e_fn, e_tup, asB_bl, t_val, asT_bl, t_tru, t_not, t_and, t_or, e_if, e_and, e_or, e_not, e_chain, e_fld, e_con, e_bm, e_star, WL.Q.pe_lst, pe_dict0, pe_dict0K, pe_meth, meth1_ins, con1_ins, s_seq, s_drop, s_ret, s_if, s_next, s_retN, s_asg, s_for, g_nm, g_sub, s_raise, fn_w, out_rt, out_nx, out_ex, set0, setS, lt_ii, le_ii, gt_ii, ge_ii, sub_ii, add_ii, int_i, eq_ii, ne_ii, sub_ref, sub1_lst, sub1_insF, ixSeq0, ixSeq1, ixSeq2, ixSeq3, sub_tup, set_ref, pset_ek, pset_own, startW, List.map_cons, List.map_nil, List.length_cons, List.length_nil, List.replicate_succ, List.replicate_zero, List.cons_append, List.nil_append, Nat.reduceAdd, Nat.reduceSub, Nat.add_sub_cancel, decide_true, decide_false, Bool.not_true, Bool.not_false, List.length_append, List.set_cons_zero, List.set_cons_succ, Nat.reduceLT, Nat.reduceEqDiff, ↓reduceIte, Nat.zero_ne_one, Nat.one_ne_zero, app_ref, papp1, ty_ref, isL_lst, list_ref, plist1, s_fld, ins_ref, ins1_ins, ps_fld1, putW, fldOf, getW, g_tup2, not_non, not_str, nin_in, in_ref, in1_strs, in1_dT, in1_insF, len_ref1, len1_lst, List.length_map, Nat.zero_add, getD, pe_lc, pi_range1, range1_i, WL.Q.pi_seq, itemsR_ref, items1_lst, itemsR_tup, lenO_ref, lenO1_ins, natC_int, pe_is, isB_some, isR_tup, isR_int, isR_str, isR_bl, isR_non, isR_ref, isR1_lst, isR1_ins, WL.Q.pe_prop, prop1_ins, wp_noX, nP_ok, not_bl, is_non, is_str, is_bl, notnon_bl, isnon_bl, notnon_ref, isnon_ref, is_tg, not_tg, eq_bb, ne_bb, xi, dget_some, psub_ek, list_scr, list_tup, bind_ok, bind_ex, fl_ok, fl_ex, sq_nx, sq_rt, sq_ex, sq_bk, sq_ct, hH, small_nat (show count ≤ 1000 by omega)]; (try clear hH))
  refine wp_for (J := rangeI 0 count) (fun n σ g => ∃ (refs : List Nat) (rows : List (List Cell)) (o : GO) (o7 : Option W), σ = [some (.ref p), some (.int most), some (.int edges), some (.int wide), some (.int count), some (.int (1 + (d3 : Int))), some (.ref lr), o7, none] ∧ refs.length = n ∧ rows.length = n ∧ (∀ row ∈ rows, row.length = wide ∧ ∀ c ∈ row, CellOk count c ∧ c ≠ none) ∧ PoolOk q ns o ∧ Has g ((lr, GO.lst (refs.map .ref)) :: (S.set i (p, o) ++ rowsPart refs rows)))
    ⟨[], [], o, _, rfl, rfl, rfl, (fun _ h => by cases h), ho, by simpa [rowsPart] using H⟩ (fun _ _ _ _ => rfl) (fun n w σ g hw hI => ?_) (fun σ g hI => ?_)
  · obtain ⟨refs, rows, o, o7, rfl, hr1, hr2, hrow, ho, H⟩ := hI
    obtain ⟨hn, rfl⟩ := range_get hw
    unfold rows_fb1
    ((try simp only [List.set_cons_zero, List.set_cons_succ, List.eraseIdx_cons_zero, List.eraseIdx_cons_succ, List.cons_append, List.nil_append] at H); have hH := H; (try simp only [has_cons, has_nil, dist_cons, dist_nil, ne_eq, and_true, true_and, List.set_cons_zero, List.set_cons_succ] at hH); simp only [wp_bind, wp_fl, wp_sq, wp_out, wpO_ok, wpO_ex, wpF_nx, wpF_rt, wpF_ex, wpF_bk, wpF_ct, bP_ok, bP_ex, lP_ok, lP_ex, qP_nx, qP_rt, qP_ex, qP_bk, qP_ct, oP_rt, oP_nx, oP_ex, loopP_nx, loopP_ct, loopP_bk, loopP_rt, loopP_ex, tgP_ok, wp_try, tryP_nx, tryP_rt, tryP_ct, tryP_bk, offS_rt, offS_nx, br_t, br_f, e_var0, e_varS, e_c, e_bin, a_nil, a_cons, e_fn, e_tup, asB_bl, t_val, asT_bl, t_tru, t_not, t_and, t_or, e_if, e_and, e_or, e_not, e_chain, e_fld, e_con, e_bm, e_star, WL.Q.pe_lst, pe_dict0, pe_dict0K, pe_meth, meth1_ins, con1_ins, s_seq, s_drop, s_ret, s_if, s_next, s_retN, s_asg, s_for, g_nm, g_sub, s_raise, fn_w, out_rt, out_nx, out_ex, set0, setS, lt_ii, le_ii, gt_ii, ge_ii, sub_ii, add_ii, int_i, eq_ii, ne_ii, sub_ref, sub1_lst, sub1_insF, ixSeq0, ixSeq1, ixSeq2, ixSeq3, sub_tup, set_ref, pset_ek, pset_own, startW, List.map_cons, List.map_nil, List.length_cons, List.length_nil, List.replicate_succ, List.replicate_zero, List.cons_append, List.nil_append, Nat.reduceAdd, Nat.reduceSub, Nat.add_sub_cancel, decide_true, decide_false, Bool.not_true, Bool.not_false, List.length_append, List.set_cons_zero, List.set_cons_succ, Nat.reduceLT, Nat.reduceEqDiff, ↓reduceIte, Nat.zero_ne_one, Nat.one_ne_zero, app_ref, papp1, ty_ref, isL_lst, list_ref, plist1, s_fld, ins_ref, ins1_ins, ps_fld1, putW, fldOf, getW, g_tup2, not_non, not_str, nin_in, in_ref, in1_strs, in1_dT, in1_insF, len_ref1, len1_lst, List.length_map, Nat.zero_add, getD, pe_lc, pi_range1, range1_i, WL.Q.pi_seq, itemsR_ref, items1_lst, itemsR_tup, lenO_ref, lenO1_ins, natC_int, pe_is, isB_some, isR_tup, isR_int, isR_str, isR_bl, isR_non, isR_ref, isR1_lst, isR1_ins, WL.Q.pe_prop, prop1_ins, wp_noX, nP_ok, not_bl, is_non, is_str, is_bl, notnon_bl, isnon_bl, notnon_ref, isnon_ref, is_tg, not_tg, eq_bb, ne_bb, xi, dget_some, psub_ek, list_scr, list_tup, bind_ok, bind_ex, fl_ok, fl_ex, sq_nx, sq_rt, sq_ex, sq_bk, sq_ct, hH, small_nat (show wide ≤ 1000 by omega)]; (try clear hH))
    refine wp_lcI (α := GO × List Cell) (fun a => (lr, GO.lst (refs.map .ref)) :: (S.set i (p, a.1) ++ rowsPart refs rows)) (fun a => a.2.map cellW) (fun n a => PoolOk q ns a.1 ∧ a.2.length = n ∧ ∀ c ∈ a.2, CellOk count c ∧ c ≠ none)
      (fun w => [some (.ref p), some (.int most), some (.int edges), some (.int wide), some (.int count), some (.int (1 + (d3 : Int))), some (.ref lr), some (.int n), some w]) (o, []) H ⟨ho, rfl, fun _ h => by cases h⟩ rfl (fun _ => True.intro) (by rw [range_ws]; simp; omega) (fun _ _ _ => rfl) (fun m w a hw ha L g' H => ?_) fun l g' a ha H => ?_
    · obtain ⟨o, row⟩ := a
      obtain ⟨ho, hlen, hcs⟩ := ha
      dsimp only at ho hlen hcs H ⊢
      unfold rows_le0
      ((try simp only [List.set_cons_zero, List.set_cons_succ, List.eraseIdx_cons_zero, List.eraseIdx_cons_succ, List.cons_append, List.nil_append] at H); have hH := H; (try simp only [has_cons, has_nil, dist_cons, dist_nil, ne_eq, and_true, true_and, List.set_cons_zero, List.set_cons_succ] at hH); simp only [wp_bind, wp_fl, wp_sq, wp_out, wpO_ok, wpO_ex, wpF_nx, wpF_rt, wpF_ex, wpF_bk, wpF_ct, bP_ok, bP_ex, lP_ok, lP_ex, qP_nx, qP_rt, qP_ex, qP_bk, qP_ct, oP_rt, oP_nx, oP_ex, loopP_nx, loopP_ct, loopP_bk, loopP_rt, loopP_ex, tgP_ok, wp_try, tryP_nx, tryP_rt, tryP_ct, tryP_bk, offS_rt, offS_nx, br_t, br_f, e_var0, e_varS, e_c, e_bin, a_nil, a_cons, e_fn, e_tup, asB_bl, t_val, asT_bl, t_tru, t_not, t_and, t_or, e_if, e_and, e_or, e_not, e_chain, e_fld, e_con, e_bm, e_star, WL.Q.pe_lst, pe_dict0, pe_dict0K, pe_meth, meth1_ins, con1_ins, s_seq, s_drop, s_ret, s_if, s_next, s_retN, s_asg, s_for, g_nm, g_sub, s_raise, fn_w, out_rt, out_nx, out_ex, set0, setS, lt_ii, le_ii, gt_ii, ge_ii, sub_ii, add_ii, int_i, eq_ii, ne_ii, sub_ref, sub1_lst, sub1_insF, ixSeq0, ixSeq1, ixSeq2, ixSeq3, sub_tup, set_ref, pset_ek, pset_own, startW, List.map_cons, List.map_nil, List.length_cons, List.length_nil, List.replicate_succ, List.replicate_zero, List.cons_append, List.nil_append, Nat.reduceAdd, Nat.reduceSub, Nat.add_sub_cancel, decide_true, decide_false, Bool.not_true, Bool.not_false, List.length_append, List.set_cons_zero, List.set_cons_succ, Nat.reduceLT, Nat.reduceEqDiff, ↓reduceIte, Nat.zero_ne_one, Nat.one_ne_zero, app_ref, papp1, ty_ref, isL_lst, list_ref, plist1, s_fld, ins_ref, ins1_ins, ps_fld1, putW, fldOf, getW, g_tup2, not_non, not_str, nin_in, in_ref, in1_strs, in1_dT, in1_insF, len_ref1, len1_lst, List.length_map, Nat.zero_add, getD, pe_lc, pi_range1, range1_i, WL.Q.pi_seq, itemsR_ref, items1_lst, itemsR_tup, lenO_ref, lenO1_ins, natC_int, pe_is, isB_some, isR_tup, isR_int, isR_str, isR_bl, isR_non, isR_ref, isR1_lst, isR1_ins, WL.Q.pe_prop, prop1_ins, wp_noX, nP_ok, not_bl, is_non, is_str, is_bl, notnon_bl, isnon_bl, notnon_ref, isnon_ref, is_tg, not_tg, eq_bb, ne_bb, xi, dget_some, psub_ek, list_scr, list_tup, bind_ok, bind_ex, fl_ok, fl_ex, sq_nx, sq_rt, sq_ex, sq_bk, sq_ct, hH]; (try clear hH))
      refine sp_draw H (i + 2) (app_idx (set_idx hi)) (j + 2) (app_idx (by rw [set_oth ij]; exact hj)) ho (by omega) (by omega) fun d4 o g hd4 ho H => ?_
      rw [List.set_cons_succ, List.set_cons_succ, app_setL (set_idx hi), List.set_set] at H
      ((try simp only [List.set_cons_zero, List.set_cons_succ, List.eraseIdx_cons_zero, List.eraseIdx_cons_succ, List.cons_append, List.nil_append] at H); have hH := H; (try simp only [has_cons, has_nil, dist_cons, dist_nil, ne_eq, and_true, true_and, List.set_cons_zero, List.set_cons_succ] at hH); simp only [wp_bind, wp_fl, wp_sq, wp_out, wpO_ok, wpO_ex, wpF_nx, wpF_rt, wpF_ex, wpF_bk, wpF_ct, bP_ok, bP_ex, lP_ok, lP_ex, qP_nx, qP_rt, qP_ex, qP_bk, qP_ct, oP_rt, oP_nx, oP_ex, loopP_nx, loopP_ct, loopP_bk, loopP_rt, loopP_ex, tgP_ok, wp_try, tryP_nx, tryP_rt, tryP_ct, tryP_bk, offS_rt, offS_nx, br_t, br_f, e_var0, e_varS, e_c, e_bin, a_nil, a_cons, e_fn, e_tup, asB_bl, t_val, asT_bl, t_tru, t_not, t_and, t_or, e_if, e_and, e_or, e_not, e_chain, e_fld, e_con, e_bm, e_star, WL.Q.pe_lst, pe_dict0, pe_dict0K, pe_meth, meth1_ins, con1_ins, s_seq, s_drop, s_ret, s_if, s_next, s_retN, s_asg, s_for, g_nm, g_sub, s_raise, fn_w, out_rt, out_nx, out_ex, set0, setS, lt_ii, le_ii, gt_ii, ge_ii, sub_ii, add_ii, int_i, eq_ii, ne_ii, sub_ref, sub1_lst, sub1_insF, ixSeq0, ixSeq1, ixSeq2, ixSeq3, sub_tup, set_ref, pset_ek, pset_own, startW, List.map_cons, List.map_nil, List.length_cons, List.length_nil, List.replicate_succ, List.replicate_zero, List.cons_append, List.nil_append, Nat.reduceAdd, Nat.reduceSub, Nat.add_sub_cancel, decide_true, decide_false, Bool.not_true, Bool.not_false, List.length_append, List.set_cons_zero, List.set_cons_succ, Nat.reduceLT, Nat.reduceEqDiff, ↓reduceIte, Nat.zero_ne_one, Nat.one_ne_zero, app_ref, papp1, ty_ref, isL_lst, list_ref, plist1, s_fld, ins_ref, ins1_ins, ps_fld1, putW, fldOf, getW, g_tup2, not_non, not_str, nin_in, in_ref, in1_strs, in1_dT, in1_insF, len_ref1, len1_lst, List.length_map, Nat.zero_add, getD, pe_lc, pi_range1, range1_i, WL.Q.pi_seq, itemsR_ref, items1_lst, itemsR_tup, lenO_ref, lenO1_ins, natC_int, pe_is, isB_some, isR_tup, isR_int, isR_str, isR_bl, isR_non, isR_ref, isR1_lst, isR1_ins, WL.Q.pe_prop, prop1_ins, wp_noX, nP_ok, not_bl, is_non, is_str, is_bl, notnon_bl, isnon_bl, notnon_ref, isnon_ref, is_tg, not_tg, eq_bb, ne_bb, xi, dget_some, psub_ek, list_scr, list_tup, bind_ok, bind_ex, fl_ok, fl_ex, sq_nx, sq_rt, sq_ex, sq_bk, sq_ct, hH]; (try clear hH))
      refine sp_draw H (i + 2) (app_idx (set_idx hi)) (j + 2) (app_idx (by rw [set_oth ij]; exact hj)) ho (by omega) (by omega) fun d5 o g hd5 ho H => ?_
      rw [List.set_cons_succ, List.set_cons_succ, app_setL (set_idx hi), List.set_set] at H
      ((try simp only [List.set_cons_zero, List.set_cons_succ, List.eraseIdx_cons_zero, List.eraseIdx_cons_succ, List.cons_append, List.nil_append] at H); have hH := H; (try simp only [has_cons, has_nil, dist_cons, dist_nil, ne_eq, and_true, true_and, List.set_cons_zero, List.set_cons_succ] at hH); simp only [wp_bind, wp_fl, wp_sq, wp_out, wpO_ok, wpO_ex, wpF_nx, wpF_rt, wpF_ex, wpF_bk, wpF_ct, bP_ok, bP_ex, lP_ok, lP_ex, qP_nx, qP_rt, qP_ex, qP_bk, qP_ct, oP_rt, oP_nx, oP_ex, loopP_nx, loopP_ct, loopP_bk, loopP_rt, loopP_ex, tgP_ok, wp_try, tryP_nx, tryP_rt, tryP_ct, tryP_bk, offS_rt, offS_nx, br_t, br_f, e_var0, e_varS, e_c, e_bin, a_nil, a_cons, e_fn, e_tup, asB_bl, t_val, asT_bl, t_tru, t_not, t_and, t_or, e_if, e_and, e_or, e_not, e_chain, e_fld, e_con, e_bm, e_star, WL.Q.pe_lst, pe_dict0, pe_dict0K, pe_meth, meth1_ins, con1_ins, s_seq, s_drop, s_ret, s_if, s_next, s_retN, s_asg, s_for, g_nm, g_sub, s_raise, fn_w, out_rt, out_nx, out_ex, set0, setS, lt_ii, le_ii, gt_ii, ge_ii, sub_ii, add_ii, int_i, eq_ii, ne_ii, sub_ref, sub1_lst, sub1_insF, ixSeq0, ixSeq1, ixSeq2, ixSeq3, sub_tup, set_ref, pset_ek, pset_own, startW, List.map_cons, List.map_nil, List.length_cons, List.length_nil, List.replicate_succ, List.replicate_zero, List.cons_append, List.nil_append, Nat.reduceAdd, Nat.reduceSub, Nat.add_sub_cancel, decide_true, decide_false, Bool.not_true, Bool.not_false, List.length_append, List.set_cons_zero, List.set_cons_succ, Nat.reduceLT, Nat.reduceEqDiff, ↓reduceIte, Nat.zero_ne_one, Nat.one_ne_zero, app_ref, papp1, ty_ref, isL_lst, list_ref, plist1, s_fld, ins_ref, ins1_ins, ps_fld1, putW, fldOf, getW, g_tup2, not_non, not_str, nin_in, in_ref, in1_strs, in1_dT, in1_insF, len_ref1, len1_lst, List.length_map, Nat.zero_add, getD, pe_lc, pi_range1, range1_i, WL.Q.pi_seq, itemsR_ref, items1_lst, itemsR_tup, lenO_ref, lenO1_ins, natC_int, pe_is, isB_some, isR_tup, isR_int, isR_str, isR_bl, isR_non, isR_ref, isR1_lst, isR1_ins, WL.Q.pe_prop, prop1_ins, wp_noX, nP_ok, not_bl, is_non, is_str, is_bl, notnon_bl, isnon_bl, notnon_ref, isnon_ref, is_tg, not_tg, eq_bb, ne_bb, xi, dget_some, psub_ek, list_scr, list_tup, bind_ok, bind_ex, fl_ok, fl_ex, sq_nx, sq_rt, sq_ex, sq_bk, sq_ct, hH, fits2']; (try clear hH))
      refine ⟨_, g, (o, row ++ [some (d4, (d5 : Int) - 1)]), rfl, H, by simp [cellW], ho, by simp [hlen], fun c hc => ?_⟩
      rcases List.mem_append.mp hc with h | h
      · exact hcs c h
      · rw [List.mem_singleton.mp h]
        exact ⟨⟨by omega, by omega, by omega⟩, fun z => by cases z⟩
    · obtain ⟨o, row⟩ := a
      obtain ⟨ho, hlen, hcs⟩ := ha
      dsimp only at ho hlen hcs H
      rw [range_len] at hlen
      have hl0 : (refs.map W.ref).length ≤ 1000000 := by rw [List.length_map]; omega
      ((try simp only [List.set_cons_zero, List.set_cons_succ, List.eraseIdx_cons_zero, List.eraseIdx_cons_succ, List.cons_append, List.nil_append] at H); have hH := H; (try simp only [has_cons, has_nil, dist_cons, dist_nil, ne_eq, and_true, true_and, List.set_cons_zero, List.set_cons_succ] at hH); simp only [wp_bind, wp_fl, wp_sq, wp_out, wpO_ok, wpO_ex, wpF_nx, wpF_rt, wpF_ex, wpF_bk, wpF_ct, bP_ok, bP_ex, lP_ok, lP_ex, qP_nx, qP_rt, qP_ex, qP_bk, qP_ct, oP_rt, oP_nx, oP_ex, loopP_nx, loopP_ct, loopP_bk, loopP_rt, loopP_ex, tgP_ok, wp_try, tryP_nx, tryP_rt, tryP_ct, tryP_bk, offS_rt, offS_nx, br_t, br_f, e_var0, e_varS, e_c, e_bin, a_nil, a_cons, e_fn, e_tup, asB_bl, t_val, asT_bl, t_tru, t_not, t_and, t_or, e_if, e_and, e_or, e_not, e_chain, e_fld, e_con, e_bm, e_star, WL.Q.pe_lst, pe_dict0, pe_dict0K, pe_meth, meth1_ins, con1_ins, s_seq, s_drop, s_ret, s_if, s_next, s_retN, s_asg, s_for, g_nm, g_sub, s_raise, fn_w, out_rt, out_nx, out_ex, set0, setS, lt_ii, le_ii, gt_ii, ge_ii, sub_ii, add_ii, int_i, eq_ii, ne_ii, sub_ref, sub1_lst, sub1_insF, ixSeq0, ixSeq1, ixSeq2, ixSeq3, sub_tup, set_ref, pset_ek, pset_own, startW, List.map_cons, List.map_nil, List.length_cons, List.length_nil, List.replicate_succ, List.replicate_zero, List.cons_append, List.nil_append, Nat.reduceAdd, Nat.reduceSub, Nat.add_sub_cancel, decide_true, decide_false, Bool.not_true, Bool.not_false, List.length_append, List.set_cons_zero, List.set_cons_succ, Nat.reduceLT, Nat.reduceEqDiff, ↓reduceIte, Nat.zero_ne_one, Nat.one_ne_zero, app_ref, papp1, ty_ref, isL_lst, list_ref, plist1, s_fld, ins_ref, ins1_ins, ps_fld1, putW, fldOf, getW, g_tup2, not_non, not_str, nin_in, in_ref, in1_strs, in1_dT, in1_insF, len_ref1, len1_lst, List.length_map, Nat.zero_add, getD, pe_lc, pi_range1, range1_i, WL.Q.pi_seq, itemsR_ref, items1_lst, itemsR_tup, lenO_ref, lenO1_ins, natC_int, pe_is, isB_some, isR_tup, isR_int, isR_str, isR_bl, isR_non, isR_ref, isR1_lst, isR1_ins, WL.Q.pe_prop, prop1_ins, wp_noX, nP_ok, not_bl, is_non, is_str, is_bl, notnon_bl, isnon_bl, notnon_ref, isnon_ref, is_tg, not_tg, eq_bb, ne_bb, xi, dget_some, psub_ek, list_scr, list_tup, bind_ok, bind_ex, fl_ok, fl_ex, sq_nx, sq_rt, sq_ex, sq_bk, sq_ct, hH, fits_of (show refs.length ≤ 1000000 by omega)]; (try clear hH))
      ((try simp only [List.set_cons_zero, List.set_cons_succ, List.eraseIdx_cons_zero, List.eraseIdx_cons_succ, List.cons_append, List.nil_append] at H); first | refine wp_upd H 0 rfl fun _ H => ?_ | refine wp_upd H 1 rfl fun _ H => ?_ | refine wp_upd H 2 rfl fun _ H => ?_ | refine wp_upd H 3 rfl fun _ H => ?_ | refine wp_upd H 4 rfl fun _ H => ?_ | refine wp_upd H 5 rfl fun _ H => ?_ | refine wp_upd H 6 rfl fun _ H => ?_ | refine wp_upd H 7 rfl fun _ H => ?_ | refine wp_upd H 8 rfl fun _ H => ?_ | refine wp_upd H 9 rfl fun _ H => ?_ | refine wp_upd H 10 rfl fun _ H => ?_ | refine wp_upd H 11 rfl fun _ H => ?_ | refine wp_upd H 12 rfl fun _ H => ?_ | refine wp_upd H 13 rfl fun _ H => ?_ | refine wp_upd H 14 rfl fun _ H => ?_ | refine wp_upd H 15 rfl fun _ H => ?_ | refine wp_upd H 16 rfl fun _ H => ?_ | refine wp_upd H 17 rfl fun _ H => ?_ | refine wp_upd H 18 rfl fun _ H => ?_ | refine wp_upd H 19 rfl fun _ H => ?_)
      ((try simp only [List.set_cons_zero, List.set_cons_succ, List.eraseIdx_cons_zero, List.eraseIdx_cons_succ, List.cons_append, List.nil_append] at H); have hH := H; (try simp only [has_cons, has_nil, dist_cons, dist_nil, ne_eq, and_true, true_and, List.set_cons_zero, List.set_cons_succ] at hH); simp only [wp_bind, wp_fl, wp_sq, wp_out, wpO_ok, wpO_ex, wpF_nx, wpF_rt, wpF_ex, wpF_bk, wpF_ct, bP_ok, bP_ex, lP_ok, lP_ex, qP_nx, qP_rt, qP_ex, qP_bk, qP_ct, oP_rt, oP_nx, oP_ex, loopP_nx, loopP_ct, loopP_bk, loopP_rt, loopP_ex, tgP_ok, wp_try, tryP_nx, tryP_rt, tryP_ct, tryP_bk, offS_rt, offS_nx, br_t, br_f, e_var0, e_varS, e_c, e_bin, a_nil, a_cons, e_fn, e_tup, asB_bl, t_val, asT_bl, t_tru, t_not, t_and, t_or, e_if, e_and, e_or, e_not, e_chain, e_fld, e_con, e_bm, e_star, WL.Q.pe_lst, pe_dict0, pe_dict0K, pe_meth, meth1_ins, con1_ins, s_seq, s_drop, s_ret, s_if, s_next, s_retN, s_asg, s_for, g_nm, g_sub, s_raise, fn_w, out_rt, out_nx, out_ex, set0, setS, lt_ii, le_ii, gt_ii, ge_ii, sub_ii, add_ii, int_i, eq_ii, ne_ii, sub_ref, sub1_lst, sub1_insF, ixSeq0, ixSeq1, ixSeq2, ixSeq3, sub_tup, set_ref, pset_ek, pset_own, startW, List.map_cons, List.map_nil, List.length_cons, List.length_nil, List.replicate_succ, List.replicate_zero, List.cons_append, List.nil_append, Nat.reduceAdd, Nat.reduceSub, Nat.add_sub_cancel, decide_true, decide_false, Bool.not_true, Bool.not_false, List.length_append, List.set_cons_zero, List.set_cons_succ, Nat.reduceLT, Nat.reduceEqDiff, ↓reduceIte, Nat.zero_ne_one, Nat.one_ne_zero, app_ref, papp1, ty_ref, isL_lst, list_ref, plist1, s_fld, ins_ref, ins1_ins, ps_fld1, putW, fldOf, getW, g_tup2, not_non, not_str, nin_in, in_ref, in1_strs, in1_dT, in1_insF, len_ref1, len1_lst, List.length_map, Nat.zero_add, getD, pe_lc, pi_range1, range1_i, WL.Q.pi_seq, itemsR_ref, items1_lst, itemsR_tup, lenO_ref, lenO1_ins, natC_int, pe_is, isB_some, isR_tup, isR_int, isR_str, isR_bl, isR_non, isR_ref, isR1_lst, isR1_ins, WL.Q.pe_prop, prop1_ins, wp_noX, nP_ok, not_bl, is_non, is_str, is_bl, notnon_bl, isnon_bl, notnon_ref, isnon_ref, is_tg, not_tg, eq_bb, ne_bb, xi, dget_some, psub_ek, list_scr, list_tup, bind_ok, bind_ex, fl_ok, fl_ex, sq_nx, sq_rt, sq_ex, sq_bk, sq_ct, hH]; (try clear hH))
      refine ⟨refs ++ [l], rows ++ [row], o, _, rfl, by simp [hr1], by simp [hr2], fun r hr => ?_, ho, ?_⟩
      · rcases List.mem_append.mp hr with h | h
        · exact hrow r h
        · rw [List.mem_singleton.mp h]; exact ⟨hlen, hcs⟩
      · rw [rowsPart_snoc (by rw [hr1, hr2]), List.map_append, ← List.append_assoc]
        have H2 := H.rot
        simpa [rowW] using H2
  · obtain ⟨refs, rows, o, o7, rfl, hr1, hr2, hrow, ho, H⟩ := hI
    rw [range_len] at hr1 hr2
    ((try simp only [List.set_cons_zero, List.set_cons_succ, List.eraseIdx_cons_zero, List.eraseIdx_cons_succ, List.cons_append, List.nil_append] at H); have hH := H; (try simp only [has_cons, has_nil, dist_cons, dist_nil, ne_eq, and_true, true_and, List.set_cons_zero, List.set_cons_succ] at hH); simp only [wp_bind, wp_fl, wp_sq, wp_out, wpO_ok, wpO_ex, wpF_nx, wpF_rt, wpF_ex, wpF_bk, wpF_ct, bP_ok, bP_ex, lP_ok, lP_ex, qP_nx, qP_rt, qP_ex, qP_bk, qP_ct, oP_rt, oP_nx, oP_ex, loopP_nx, loopP_ct, loopP_bk, loopP_rt, loopP_ex, tgP_ok, wp_try, tryP_nx, tryP_rt, tryP_ct, tryP_bk, offS_rt, offS_nx, br_t, br_f, e_var0, e_varS, e_c, e_bin, a_nil, a_cons, e_fn, e_tup, asB_bl, t_val, asT_bl, t_tru, t_not, t_and, t_or, e_if, e_and, e_or, e_not, e_chain, e_fld, e_con, e_bm, e_star, WL.Q.pe_lst, pe_dict0, pe_dict0K, pe_meth, meth1_ins, con1_ins, s_seq, s_drop, s_ret, s_if, s_next, s_retN, s_asg, s_for, g_nm, g_sub, s_raise, fn_w, out_rt, out_nx, out_ex, set0, setS, lt_ii, le_ii, gt_ii, ge_ii, sub_ii, add_ii, int_i, eq_ii, ne_ii, sub_ref, sub1_lst, sub1_insF, ixSeq0, ixSeq1, ixSeq2, ixSeq3, sub_tup, set_ref, pset_ek, pset_own, startW, List.map_cons, List.map_nil, List.length_cons, List.length_nil, List.replicate_succ, List.replicate_zero, List.cons_append, List.nil_append, Nat.reduceAdd, Nat.reduceSub, Nat.add_sub_cancel, decide_true, decide_false, Bool.not_true, Bool.not_false, List.length_append, List.set_cons_zero, List.set_cons_succ, Nat.reduceLT, Nat.reduceEqDiff, ↓reduceIte, Nat.zero_ne_one, Nat.one_ne_zero, app_ref, papp1, ty_ref, isL_lst, list_ref, plist1, s_fld, ins_ref, ins1_ins, ps_fld1, putW, fldOf, getW, g_tup2, not_non, not_str, nin_in, in_ref, in1_strs, in1_dT, in1_insF, len_ref1, len1_lst, List.length_map, Nat.zero_add, getD, pe_lc, pi_range1, range1_i, WL.Q.pi_seq, itemsR_ref, items1_lst, itemsR_tup, lenO_ref, lenO1_ins, natC_int, pe_is, isB_some, isR_tup, isR_int, isR_str, isR_bl, isR_non, isR_ref, isR1_lst, isR1_ins, WL.Q.pe_prop, prop1_ins, wp_noX, nP_ok, not_bl, is_non, is_str, is_bl, notnon_bl, isnon_bl, notnon_ref, isnon_ref, is_tg, not_tg, eq_bb, ne_bb, xi, dget_some, psub_ek, list_scr, list_tup, bind_ok, bind_ex, fl_ok, fl_ex, sq_nx, sq_rt, sq_ex, sq_bk, sq_ct, hH, rows_r2]; (try clear hH))
    exact k wide count rows refs o lr g hw1 hw4 hc1 hcm hce ⟨hr2, fun r hr => (hrow r hr).1, fun r hr c hc => ((hrow r hr).2 c hc).1⟩ (fun r hr c hc => ((hrow r hr).2 c hc).2) hr1 ho H
end Q
end WL
end
section
set_option maxRecDepth 100000
set_option maxHeartbeats 1000000
namespace WL
namespace Q
open PySem PySem.Spec L2
open PyProof.Rows hiding St
open PySem.Builtin.Str
set_option autoImplicit true
def dig (c : Nat) : Nat := if 97 ≤ c then c - 97 else c - 48 + 26
def val : List Nat → Nat
  | [] => 0
  | c :: l => dig c + 36 * val l
def num (s : Str) : Nat := match s.cps.toList with
  | [] => 0
  | c :: l => dig c + 26 * val l
theorem dig_sign {d : Nat} (h : d < 36) : dig (sign d) = d := by
  unfold dig sign
  split <;> split <;> omega
theorem val_pad {l : List Nat} {k : Nat} : val (l ++ List.replicate k 97) = val l := by
  induction l with
  | nil =>
    induction k with
    | zero => rfl
    | succ k ih =>
      rw [List.nil_append] at ih ⊢
      rw [List.replicate_succ]
      show dig 97 + 36 * val (List.replicate k 97) = 0
      rw [ih]
      rfl
  | cons c l ih => rw [List.cons_append, val, val, ih]
theorem val_wtail (n : Nat) : val (wtail n) = n := by
  induction n using Nat.strongRecOn with
  | _ n ih =>
    by_cases h : n = 0
    · subst h; rw [wtail0]; rfl
    · rw [wtailS (Nat.pos_of_ne_zero h), val, ih (n / 36) (by omega), dig_sign (Nat.mod_lt _ (by decide))]
      omega
theorem word_list {n : Nat} : (word n).cps.toList = sign (n % 26) :: wtail (n / 26) := by simp [word]
theorem num_word {n : Nat} : num (word n) = n := by
  unfold num
  rw [word_list]
  dsimp only
  rw [dig_sign (by omega), val_wtail]
  omega
theorem num_pad {n size : Nat} : num (Txt.ljustF (word n) size 97) = n := by
  unfold Txt.ljustF
  split
  · exact num_word
  · have e : (padded (word n) 0 ((size : Int).toNat - (word n).length) 97).cps.toList = sign (n % 26) :: (wtail (n / 26) ++ List.replicate ((size : Int).toNat - (word n).length) 97) := by
      unfold padded
      simp [word]
    unfold num
    rw [e]
    dsimp only
    rw [dig_sign (by omega), val_pad, val_wtail]
    omega
theorem wordL_inj {first gap size j k : Nat} (hg : 1 ≤ gap) (hg2 : gap ≤ 10 ^ 11) (hj : j < 20) (hk : k < 20) (h : wordL first gap size j = wordL first gap size k) : j = k := by
  have e : (first + gap * j) % wmost = (first + gap * k) % wmost := by
    have := congrArg num h
    unfold wordL at this
    rwa [num_pad, num_pad] at this
  have key : ∀ a b : Nat, a ≤ b → b < 20 → (first + gap * a) % wmost = (first + gap * b) % wmost → a = b := fun a b hab hb e => by
    have z := Nat.sub_mod_eq_zero_of_mod_eq e.symm
    have e2 : first + gap * b - (first + gap * a) = gap * (b - a) := by
      rw [Nat.mul_sub]; omega
    rw [e2] at z
    have hlt : gap * (b - a) < wmost := by
      have h1 : gap * (b - a) ≤ 10 ^ 11 * 19 := Nat.mul_le_mul hg2 (by omega)
      rw [wmost_eq]
      have : 10 ^ 11 * 19 < 26 * 36 ^ 7 := by decide
      omega
    rw [Nat.mod_eq_of_lt hlt] at z
    rcases Nat.mul_eq_zero.mp z with h | h
    · omega
    · omega
  rcases Nat.le_total j k with h1 | h1
  · exact key j k h1 hk e
  · exact (key k j h1 hj e.symm).symm
theorem wordsL_nodup {first gap size n : Nat} (hg : 1 ≤ gap) (hg2 : gap ≤ 10 ^ 11) (hn : n ≤ 20) : (wordsL first gap size n).Nodup := by
  unfold wordsL
  rw [List.Nodup, List.pairwise_map]
  refine List.Pairwise.imp_of_mem (fun {a b} ha hb hab h => ?_) (List.nodup_range (n := n))
  rw [List.mem_range] at ha hb
  exact hab (wordL_inj hg hg2 (by omega) (by omega) h)
theorem wordsL_len {first gap size n : Nat} : (wordsL first gap size n).length = n := by simp [wordsL]
def nth (l : List Str) (k : Nat) : Str := l.getD k Str.empty
theorem nth_get {l : List Str} {k : Nat} (h : k < l.length) : l[k]? = some (nth l k) := by
  unfold nth
  rw [List.getD_eq_getElem?_getD, List.getElem?_eq_getElem h]
  rfl
theorem nth_mem {l : List Str} {k : Nat} (h : k < l.length) : nth l k ∈ l := List.mem_of_getElem? (nth_get h)
theorem nth_inj {l : List Str} (nd : l.Nodup) {j k : Nat} (hj : j < l.length) (hk : k < l.length) (h : nth l j = nth l k) : j = k := by
  have a := nth_get hj
  have b := nth_get hk
  rw [h] at a
  obtain ⟨_, a⟩ := List.getElem?_eq_some_iff.mp a
  obtain ⟨_, b⟩ := List.getElem?_eq_some_iff.mp b
  exact (List.getElem_inj nd).mp (a.trans b.symm)
theorem ix_nth {l : List Str} {k : Nat} {g : G} (h : k < l.length) : ixSeq (l.map W.str) (.int k) g = .ok (.str (nth l k)) g := ixSeq_get (by rw [List.getElem?_map, nth_get h]; rfl)
theorem ix_nth0 {l : List Str} {g : G} (h : 0 < l.length) : ixSeq (l.map W.str) (.int 0) g = .ok (.str (nth l 0)) g := ix_nth (k := 0) h
def natW (k : Nat) : W := .int (k : Nat)
theorem ix_nat {l : List Nat} {i k : Nat} {g : G} (h : l[i]? = some k) : ixSeq (l.map natW) (.int i) g = .ok (.int (k : Nat)) g := ixSeq_get (by rw [List.getElem?_map, h]; rfl)
theorem inL_nat {k : Nat} : ∀ l : List Nat, inL (.int (k : Nat)) (l.map natW) = decide (k ∈ l)
  | [] => by simp [inL]
  | a :: l => by
    have ih := inL_nat (k := k) l
    unfold inL at ih ⊢
    rw [List.map_cons, List.any_cons, ih]
    have e : eqV (toV (natW a)) (toV (.int (k : Nat))) = decide (k = a) := by
      show ((a : Int) == (k : Int)) = decide (k = a)
      by_cases h : k = a
      · subst h; simp
      · rw [decide_eq_false h, beq_eq_false_iff_ne]
        exact fun z => h (by omega)
    rw [e]
    simp
theorem flat_nats : ∀ l : List Nat, (l.map natW).all flatW = true
  | [] => rfl
  | a :: l => by rw [List.map_cons, List.all_cons, flat_nats l]; rfl
theorem in1_nats {d : Disp} {k l : Nat} {g : G} {ks : List Nat} : in1 d (.int (k : Nat)) l g (some (GO.lst (ks.map natW))) = .ok (.bl (decide (k ∈ ks))) g := by
  unfold in1
  dsimp only
  rw [flat_nats, inL_nat]
  rfl
theorem notnon_tup {ws : List W} {g : G} : notNF (.tup ws) .non g = .ok (.bl true) g := (rfl)
theorem notnon_int {i : Int} {g : G} : notNF (.int i) .non g = .ok (.bl true) g := (rfl)
structure RowsIn (S : List (Nat × GO)) (ir off lr : Nat) (refs : List Nat) (rows : List (List Cell)) : Prop where
  hr : S[ir]? = some (lr, GO.lst (refs.map .ref))
  len : refs.length = rows.length
  row : ∀ k r row, refs[k]? = some r → rows[k]? = some row → S[off + k]? = some (r, rowW row)
theorem RowsIn.cons {S ir off lr refs rows p} (h : RowsIn S ir off lr refs rows) : RowsIn (p :: S) (ir + 1) (off + 1) lr refs rows := ⟨h.hr, h.len, fun k r row a b => by
  rw [show off + 1 + k = off + k + 1 by omega]
  exact h.row k r row a b⟩
theorem RowsIn.mk' {S S' : List (Nat × GO)} {ir lr refs rows} (hr : S[ir]? = some (lr, GO.lst (refs.map .ref))) (len : refs.length = rows.length) (e : S = S' ++ rowsPart refs rows) : RowsIn S ir S'.length lr refs rows := ⟨hr, len, fun k r row a b => by
  rw [e, List.getElem?_append_right (Nat.le_add_right _ _), Nat.add_sub_cancel_left]
  exact rowsPart_get a b⟩
theorem RowsIn.ref {S ir off lr refs rows} (h : RowsIn S ir off lr refs rows) {k : Nat} {row : List Cell} (hk : rows[k]? = some row) : ∃ r, refs[k]? = some r ∧ S[off + k]? = some (r, rowW row) := by
  have hl : k < refs.length := by rw [h.len]; exact (List.getElem?_eq_some_iff.mp hk).1
  exact ⟨refs[k], List.getElem?_eq_getElem hl, h.row k _ row (List.getElem?_eq_getElem hl) hk⟩
theorem ix_refs {refs : List Nat} {k r : Nat} {g : G} (h : refs[k]? = some r) : ixSeq (refs.map W.ref) (.int k) g = .ok (.ref r) g := ixSeq_get (by rw [List.getElem?_map, h]; rfl)
theorem ix_cell {row : List Cell} {j : Nat} {c : Cell} {g : G} (h : row[j]? = some c) : ixSeq (row.map cellW) (.int j) g = .ok (cellW c) g := ixSeq_get (by rw [List.getElem?_map, h]; rfl)
def cellAt (rows : List (List Cell)) (k j : Nat) : Cell := match rows[k]? with
  | some row => (row[j]?).join
  | none => none
theorem cellAt_of {rows : List (List Cell)} {k j : Nat} {row : List Cell} {c : Cell} (h : rows[k]? = some row) (hj : row[j]? = some c) : cellAt rows k j = c := by
  unfold cellAt
  rw [h]
  dsimp only
  rw [hj]
  rfl
def ordStep (ord : List Nat) (k : Nat) : Cell → List Nat
  | none => ord
  | some (_, t) => if 0 ≤ t ∧ t.toNat ∉ (if k ∈ ord then ord else ord ++ [k]) then (if k ∈ ord then ord else ord ++ [k]) ++ [t.toNat] else (if k ∈ ord then ord else ord ++ [k])
def ordRow (ord : List Nat) (k : Nat) (row : List Cell) : List Nat := row.foldl (fun o c => ordStep o k c) ord
def ordN (rows : List (List Cell)) (n : Nat) : List Nat := (List.range n).foldl (fun o k => ordRow o k (rows.getD k [])) [0]
theorem ordN_succ {rows : List (List Cell)} {n : Nat} {row : List Cell} (h : rows[n]? = some row) : ordN rows (n + 1) = ordRow (ordN rows n) n row := by
  unfold ordN
  rw [List.range_succ, List.foldl_append, List.foldl_cons, List.foldl_nil, List.getD_eq_getElem?_getD, h]
  rfl
theorem ordRow_succ {ord : List Nat} {k j : Nat} {row : List Cell} {c : Cell} (h : row[j]? = some c) : ordRow ord k (row.take (j + 1)) = ordStep (ordRow ord k (row.take j)) k c := by
  unfold ordRow
  rw [List.take_add_one, h, List.foldl_append]
  rfl
/-- places below count only, each once -/
structure OrdOk (count : Nat) (ord : List Nat) : Prop where
  lt : ∀ k ∈ ord, k < count
  nd : ord.Nodup
theorem OrdOk.app {count : Nat} {ord : List Nat} {k : Nat} (h : OrdOk count ord) (hk : k < count) (hn : k ∉ ord) : OrdOk count (ord ++ [k]) := ⟨fun j hj => by
    rcases List.mem_append.mp hj with q | q
    · exact h.lt j q
    · rw [List.mem_singleton.mp q]; exact hk, by
    rw [List.nodup_append]
    exact ⟨h.nd, by simp, fun a ha b hb e => hn (by rw [List.mem_singleton] at hb; rw [← hb, ← e]; exact ha)⟩⟩
theorem OrdOk.step {count : Nat} {ord : List Nat} {k : Nat} {c : Cell} (h : OrdOk count ord) (hk : k < count) (hc : CellOk count c) : OrdOk count (ordStep ord k c) := by
  cases c with
  | none => exact h
  | some p =>
    obtain ⟨a, t⟩ := p
    have h1 : OrdOk count (if k ∈ ord then ord else ord ++ [k]) := by
      split
      · exact h
      · rename_i z; exact h.app hk z
    unfold ordStep
    dsimp only
    by_cases z : 0 ≤ t ∧ t.toNat ∉ (if k ∈ ord then ord else ord ++ [k])
    · have := hc.2.2
      rw [if_pos z]
      exact h1.app (by omega) z.2
    · rw [if_neg z]
      exact h1
theorem OrdOk.row {count : Nat} {k : Nat} (hk : k < count) : ∀ {row : List Cell} {ord : List Nat}, OrdOk count ord → (∀ c ∈ row, CellOk count c) → OrdOk count (ordRow ord k row)
  | [], _, h, _ => h
  | c :: row, ord, h, hc => OrdOk.row hk (row := row) (h.step hk (hc c List.mem_cons_self)) fun c h => hc c (List.mem_cons_of_mem _ h)
theorem OrdOk.all {count wide : Nat} {rows : List (List Cell)} (h : RowsOk count wide rows) (hc : 1 ≤ count) : ∀ n, n ≤ count → OrdOk count (ordN rows n)
  | 0, _ => ⟨fun k hk => by
      have : k = 0 := by simpa [ordN] using hk
      omega, by simp [ordN]⟩
  | n + 1, hn => by
    have hl : n < rows.length := by rw [h.len]; omega
    rw [ordN_succ (List.getElem?_eq_getElem hl)]
    exact (OrdOk.all h hc n (by omega)).row (by omega) (h.cell _ (List.getElem_mem hl))
theorem nodup_lt : ∀ (n : Nat) (l : List Nat), l.Nodup → (∀ k ∈ l, k < n) → l.length ≤ n
  | 0, l, _, h => by
    cases l with
    | nil => simp
    | cons a l => exact absurd (h a List.mem_cons_self) (by omega)
  | n + 1, l, nd, h => by
    by_cases hm : n ∈ l
    · have h2 := nodup_lt n (l.erase n) (nd.erase n) fun k hk => by
        have h3 := (nd.mem_erase_iff).mp hk
        have := h k h3.2
        have := h3.1
        omega
      rw [List.length_erase_of_mem hm] at h2
      omega
    · have := nodup_lt n l nd fun k hk => by
        have h3 := h k hk
        have : k ≠ n := fun e => hm (e ▸ hk)
        omega
      omega
theorem OrdOk.len {count : Nat} {ord : List Nat} (h : OrdOk count ord) : ord.length ≤ count := by
  exact nodup_lt count ord h.nd h.lt
def tgOf (names : List Str) (t : Int) : Option Str := if 0 ≤ t then some (nth names t.toNat) else none
theorem mem_names {names : List Str} (nd : names.Nodup) {count : Nat} (hl : count ≤ names.length) {ord : List Nat} (ho : ∀ k ∈ ord, k < count) {k : Nat} (hk : k < count) : nth names k ∈ ord.map (nth names) ↔ k ∈ ord := by
  constructor
  · intro h
    obtain ⟨j, hj, e⟩ := List.mem_map.mp h
    have := ho j hj
    rw [← nth_inj nd (by omega) (by omega) e]
    exact hj
  · exact fun h => List.mem_map.mpr ⟨k, h, rfl⟩
theorem grow_map {names : List Str} (nd : names.Nodup) {count : Nat} (hl : count ≤ names.length) {ord : List Nat} (ho : ∀ k ∈ ord, k < count) {k : Nat} (hk : k < count) : grow1 (ord.map (nth names)) (nth names k) = (if k ∈ ord then ord else ord ++ [k]).map (nth names) := by
  unfold grow1
  by_cases h : k ∈ ord
  · rw [if_pos h, if_pos ((mem_names nd hl ho hk).mpr h)]
  · rw [if_neg h, if_neg fun z => h ((mem_names nd hl ho hk).mp z), List.map_append]
    rfl
theorem grown_map {names : List Str} (nd : names.Nodup) {count : Nat} (hl : count ≤ names.length) {ord : List Nat} (ho : OrdOk count ord) {k a : Nat} {t : Int} (hk : k < count) (hc : CellOk count (some (a, t))) :
    grown (ord.map (nth names)) (nth names k) (tgOf names t) = (ordStep ord k (some (a, t))).map (nth names) := by
  have h1 : OrdOk count (if k ∈ ord then ord else ord ++ [k]) := by
    split
    · exact ho
    · rename_i z; exact ho.app hk z
  unfold grown tgOf ordStep
  by_cases h : 0 ≤ t
  · rw [if_pos h]
    dsimp only
    have ht : t.toNat < count := by have := hc.2.2; omega
    rw [grow_map nd hl ho.lt hk, grow_map nd hl h1.lt ht]
    by_cases hm : t.toNat ∈ (if k ∈ ord then ord else ord ++ [k])
    · rw [if_pos hm, if_neg (c := 0 ≤ t ∧ t.toNat ∉ (if k ∈ ord then ord else ord ++ [k])) fun z => z.2 hm]
    · rw [if_neg hm, if_pos (c := 0 ≤ t ∧ t.toNat ∉ (if k ∈ ord then ord else ord ++ [k])) ⟨h, hm⟩]
  · rw [if_neg h]
    dsimp only
    rw [if_neg (c := 0 ≤ t ∧ t.toNat ∉ (if k ∈ ord then ord else ord ++ [k])) fun z => h z.1]
    exact grow_map nd hl ho.lt hk
end Q
end WL
end
section
set_option maxRecDepth 100000
set_option maxHeartbeats 1000000
namespace WL
namespace Q
open PySem PySem.Spec L2
open PyProof.Rows hiding St
open PySem.Builtin.Str
set_option autoImplicit true
def part_fb0 : SD := (sSeq (sAsg (eBin (subW []) (eBin (subW []) (eVar 0) (eVar 4)) (eVar 5)) (gNm 6)) (sIf (tVal (eBin notNF (eVar 6) (eC .non))) (sAsg (eTup (aCons (eBin (subW []) (eVar 2) (eBin (subW []) (eVar 6) (eC (.int 0)))) (aCons (eIf (tVal (eBin geF (eBin (subW []) (eVar 6) (eC (.int 1))) (eC (.int 0)))) (eBin (subW []) (eVar 1) (eBin (subW []) (eVar 6) (eC (.int 1)))) (eC .non)) aNil))) (gSubW (setW [(0, F_Chart_setitem)]) (eVar 3) (eTup (aCons (eBin (subW []) (eVar 1) (eVar 4)) (aCons (eVar 5) aNil))))) sNext))
def part_fb1 : SD := (sFor (iRange1 (aCons (eFn lenF (aCons (eBin (subW []) (eVar 0) (eVar 4)) aNil)) aNil)) (gNm 5) part_fb0)
def part_r2 : SD := (sRet (eVar 3))
def m_part : SD := (sSeq (sAsg (eFn (arity 2 (mkW 0 f_Chart_init)) (aCons (eFn lenF (aCons (eBin (subW []) (eVar 0) (eC (.int 0))) aNil)) (aCons (eBin (subW []) (eVar 1) (eC (.int 0))) aNil))) (gNm 3)) (sSeq (sFor (iRange1 (aCons (eFn lenF (aCons (eVar 0) aNil)) aNil)) (gNm 4) part_fb1) part_r2))
def f_part : FN := fnW 7 m_part
def F_part : FN := arity 3 f_part
def order_r0 : SD := (sIf (tAnd (tVal (eBin notNF (eVar 3) (eC .non))) (tAnd (tVal (eBin geF (eBin (subW []) (eVar 3) (eC (.int 1))) (eC (.int 0)))) (tVal (eBin (notinF []) (eBin (subW []) (eVar 3) (eC (.int 1))) (eVar 1))))) (sDrop (eBM "list" appendM (eVar 1) (aCons (eBin (subW []) (eVar 3) (eC (.int 1))) aNil))) sNext)
def order_fb1 : SD := (sSeq (sIf (tAnd (tVal (eBin notNF (eVar 3) (eC .non))) (tVal (eBin (notinF []) (eVar 2) (eVar 1)))) (sDrop (eBM "list" appendM (eVar 1) (aCons (eVar 2) aNil))) sNext) order_r0)
def order_fb2 : SD := (sFor (iSeq (eBin (subW []) (eVar 0) (eVar 2))) (gNm 3) order_fb1)
def order_r3 : SD := (sRet (eVar 1))
def m_order : SD := (sSeq (sAsg (eLst (aCons (eC (.int 0)) aNil)) (gNm 1)) (sSeq (sFor (iRange1 (aCons (eFn lenF (aCons (eVar 0) aNil)) aNil)) (gNm 2) order_fb2) order_r3))
def f_order : FN := fnW 4 m_order
def F_order : FN := arity 1 f_order
def Chart_start_set_r0 : SD := (gFld 1 (eVar 0) (eVar 1))
def m_Chart_start_set : SD := (sSeq (sIf (tVal (eBin (notinF []) (eVar 1) (eFld 2 (eVar 0)))) (sRaise 3 [6] (aCons (eVar 1) aNil)) sNext) Chart_start_set_r0)
def f_Chart_start_set : FN := fnW 2 m_Chart_start_set
def F_Chart_start_set : FN := arity 2 f_Chart_start_set
def m_Chart_start_at : SD := (sProp [(0, F_Chart_start_set)] (eVar 0) (eVar 1))
def f_Chart_start_at : FN := fnW 2 m_Chart_start_at
def F_Chart_start_at : FN := arity 2 f_Chart_start_at
theorem snoc_nat {ord : List Nat} {k : Nat} : ord.map natW ++ [W.int (k : Nat)] = (ord ++ [k]).map natW := by simp [natW]
theorem order_step {g : G} {S : List (Nat × GO)} {lr lo k count : Nat} {ord : List Nat} {c : Cell} {P : Fl → Prop} (H : Has g ((lo, GO.lst (ord.map natW)) :: S)) (hl : ord.length ≤ 1000) (hc : CellOk count c)
    (kk : ∀ g', Has g' ((lo, GO.lst ((ordStep ord k c).map natW)) :: S) → P (.nx [some (.ref lr), some (.ref lo), some (.int (k : Nat)), some (cellW c)] g')) : wpF (order_fb1 [some (.ref lr), some (.ref lo), some (.int (k : Nat)), some (cellW c)] g) P := by
  unfold order_fb1
  cases c with
  | none =>
    ((try simp only [List.set_cons_zero, List.set_cons_succ, List.eraseIdx_cons_zero, List.eraseIdx_cons_succ, List.cons_append, List.nil_append] at H); have hH := H; (try simp only [has_cons, has_nil, dist_cons, dist_nil, ne_eq, and_true, true_and, List.set_cons_zero, List.set_cons_succ] at hH); simp only [wp_bind, wp_fl, wp_sq, wp_out, wpO_ok, wpO_ex, wpF_nx, wpF_rt, wpF_ex, wpF_bk, wpF_ct, bP_ok, bP_ex, lP_ok, lP_ex, qP_nx, qP_rt, qP_ex, qP_bk, qP_ct, oP_rt, oP_nx, oP_ex, loopP_nx, loopP_ct, loopP_bk, loopP_rt, loopP_ex, tgP_ok, wp_try, tryP_nx, tryP_rt, tryP_ct, tryP_bk, offS_rt, offS_nx, br_t, br_f, e_var0, e_varS, e_c, e_bin, a_nil, a_cons, e_fn, e_tup, asB_bl, t_val, asT_bl, t_tru, t_not, t_and, t_or, e_if, e_and, e_or, e_not, e_chain, e_fld, e_con, e_bm, e_star, WL.Q.pe_lst, pe_dict0, pe_dict0K, pe_meth, meth1_ins, con1_ins, s_seq, s_drop, s_ret, s_if, s_next, s_retN, s_asg, s_for, g_nm, g_sub, s_raise, fn_w, out_rt, out_nx, out_ex, set0, setS, lt_ii, le_ii, gt_ii, ge_ii, sub_ii, add_ii, int_i, eq_ii, ne_ii, sub_ref, sub1_lst, sub1_insF, ixSeq0, ixSeq1, ixSeq2, ixSeq3, sub_tup, set_ref, pset_ek, pset_own, startW, List.map_cons, List.map_nil, List.length_cons, List.length_nil, List.replicate_succ, List.replicate_zero, List.cons_append, List.nil_append, Nat.reduceAdd, Nat.reduceSub, Nat.add_sub_cancel, decide_true, decide_false, Bool.not_true, Bool.not_false, List.length_append, List.set_cons_zero, List.set_cons_succ, Nat.reduceLT, Nat.reduceEqDiff, ↓reduceIte, Nat.zero_ne_one, Nat.one_ne_zero, app_ref, papp1, ty_ref, isL_lst, list_ref, plist1, s_fld, ins_ref, ins1_ins, ps_fld1, putW, fldOf, getW, g_tup2, not_non, not_str, nin_in, in_ref, in1_strs, in1_dT, in1_insF, len_ref1, len1_lst, List.length_map, Nat.zero_add, getD, pe_lc, pi_range1, range1_i, WL.Q.pi_seq, itemsR_ref, items1_lst, itemsR_tup, lenO_ref, lenO1_ins, natC_int, pe_is, isB_some, isR_tup, isR_int, isR_str, isR_bl, isR_non, isR_ref, isR1_lst, isR1_ins, WL.Q.pe_prop, prop1_ins, wp_noX, nP_ok, not_bl, is_non, is_str, is_bl, notnon_bl, isnon_bl, notnon_ref, isnon_ref, is_tg, not_tg, eq_bb, ne_bb, xi, dget_some, psub_ek, list_scr, list_tup, bind_ok, bind_ex, fl_ok, fl_ex, sq_nx, sq_rt, sq_ex, sq_bk, sq_ct, notnon_tup, notnon_int, hH, cellW]; (try clear hH))
    unfold order_r0
    ((try simp only [List.set_cons_zero, List.set_cons_succ, List.eraseIdx_cons_zero, List.eraseIdx_cons_succ, List.cons_append, List.nil_append] at H); have hH := H; (try simp only [has_cons, has_nil, dist_cons, dist_nil, ne_eq, and_true, true_and, List.set_cons_zero, List.set_cons_succ] at hH); simp only [wp_bind, wp_fl, wp_sq, wp_out, wpO_ok, wpO_ex, wpF_nx, wpF_rt, wpF_ex, wpF_bk, wpF_ct, bP_ok, bP_ex, lP_ok, lP_ex, qP_nx, qP_rt, qP_ex, qP_bk, qP_ct, oP_rt, oP_nx, oP_ex, loopP_nx, loopP_ct, loopP_bk, loopP_rt, loopP_ex, tgP_ok, wp_try, tryP_nx, tryP_rt, tryP_ct, tryP_bk, offS_rt, offS_nx, br_t, br_f, e_var0, e_varS, e_c, e_bin, a_nil, a_cons, e_fn, e_tup, asB_bl, t_val, asT_bl, t_tru, t_not, t_and, t_or, e_if, e_and, e_or, e_not, e_chain, e_fld, e_con, e_bm, e_star, WL.Q.pe_lst, pe_dict0, pe_dict0K, pe_meth, meth1_ins, con1_ins, s_seq, s_drop, s_ret, s_if, s_next, s_retN, s_asg, s_for, g_nm, g_sub, s_raise, fn_w, out_rt, out_nx, out_ex, set0, setS, lt_ii, le_ii, gt_ii, ge_ii, sub_ii, add_ii, int_i, eq_ii, ne_ii, sub_ref, sub1_lst, sub1_insF, ixSeq0, ixSeq1, ixSeq2, ixSeq3, sub_tup, set_ref, pset_ek, pset_own, startW, List.map_cons, List.map_nil, List.length_cons, List.length_nil, List.replicate_succ, List.replicate_zero, List.cons_append, List.nil_append, Nat.reduceAdd, Nat.reduceSub, Nat.add_sub_cancel, decide_true, decide_false, Bool.not_true, Bool.not_false, List.length_append, List.set_cons_zero, List.set_cons_succ, Nat.reduceLT, Nat.reduceEqDiff, ↓reduceIte, Nat.zero_ne_one, Nat.one_ne_zero, app_ref, papp1, ty_ref, isL_lst, list_ref, plist1, s_fld, ins_ref, ins1_ins, ps_fld1, putW, fldOf, getW, g_tup2, not_non, not_str, nin_in, in_ref, in1_strs, in1_dT, in1_insF, len_ref1, len1_lst, List.length_map, Nat.zero_add, getD, pe_lc, pi_range1, range1_i, WL.Q.pi_seq, itemsR_ref, items1_lst, itemsR_tup, lenO_ref, lenO1_ins, natC_int, pe_is, isB_some, isR_tup, isR_int, isR_str, isR_bl, isR_non, isR_ref, isR1_lst, isR1_ins, WL.Q.pe_prop, prop1_ins, wp_noX, nP_ok, not_bl, is_non, is_str, is_bl, notnon_bl, isnon_bl, notnon_ref, isnon_ref, is_tg, not_tg, eq_bb, ne_bb, xi, dget_some, psub_ek, list_scr, list_tup, bind_ok, bind_ex, fl_ok, fl_ex, sq_nx, sq_rt, sq_ex, sq_bk, sq_ct, notnon_tup, notnon_int, hH, cellW]; (try clear hH))
    exact kk _ H
  | some p =>
    obtain ⟨a, t⟩ := p
    have fin : ∀ (o1 : List Nat) (g : G), o1 = (if k ∈ ord then ord else ord ++ [k]) → o1.length ≤ 1001 → Has g ((lo, GO.lst (o1.map natW)) :: S) → wpF (order_r0 [some (.ref lr), some (.ref lo), some (.int (k : Nat)), some (cellW (some (a, t)))] g) P := fun o1 g e hl1 H => by
      have kk : ∀ g', Has g' ((lo, GO.lst ((if 0 ≤ t ∧ t.toNat ∉ o1 then o1 ++ [t.toNat] else o1).map natW)) :: S) → P (.nx [some (.ref lr), some (.ref lo), some (.int (k : Nat)), some (cellW (some (a, t)))] g') := fun g' H => kk g' (by
        rw [e] at H
        exact H)
      unfold order_r0
      by_cases h0 : 0 ≤ t
      · obtain ⟨tn, rfl⟩ : ∃ tn : Nat, t = tn := ⟨t.toNat, by omega⟩
        rw [Int.toNat_natCast] at kk
        by_cases hm : tn ∈ o1
        · ((try simp only [List.set_cons_zero, List.set_cons_succ, List.eraseIdx_cons_zero, List.eraseIdx_cons_succ, List.cons_append, List.nil_append] at H); have hH := H; (try simp only [has_cons, has_nil, dist_cons, dist_nil, ne_eq, and_true, true_and, List.set_cons_zero, List.set_cons_succ] at hH); simp only [wp_bind, wp_fl, wp_sq, wp_out, wpO_ok, wpO_ex, wpF_nx, wpF_rt, wpF_ex, wpF_bk, wpF_ct, bP_ok, bP_ex, lP_ok, lP_ex, qP_nx, qP_rt, qP_ex, qP_bk, qP_ct, oP_rt, oP_nx, oP_ex, loopP_nx, loopP_ct, loopP_bk, loopP_rt, loopP_ex, tgP_ok, wp_try, tryP_nx, tryP_rt, tryP_ct, tryP_bk, offS_rt, offS_nx, br_t, br_f, e_var0, e_varS, e_c, e_bin, a_nil, a_cons, e_fn, e_tup, asB_bl, t_val, asT_bl, t_tru, t_not, t_and, t_or, e_if, e_and, e_or, e_not, e_chain, e_fld, e_con, e_bm, e_star, WL.Q.pe_lst, pe_dict0, pe_dict0K, pe_meth, meth1_ins, con1_ins, s_seq, s_drop, s_ret, s_if, s_next, s_retN, s_asg, s_for, g_nm, g_sub, s_raise, fn_w, out_rt, out_nx, out_ex, set0, setS, lt_ii, le_ii, gt_ii, ge_ii, sub_ii, add_ii, int_i, eq_ii, ne_ii, sub_ref, sub1_lst, sub1_insF, ixSeq0, ixSeq1, ixSeq2, ixSeq3, sub_tup, set_ref, pset_ek, pset_own, startW, List.map_cons, List.map_nil, List.length_cons, List.length_nil, List.replicate_succ, List.replicate_zero, List.cons_append, List.nil_append, Nat.reduceAdd, Nat.reduceSub, Nat.add_sub_cancel, decide_true, decide_false, Bool.not_true, Bool.not_false, List.length_append, List.set_cons_zero, List.set_cons_succ, Nat.reduceLT, Nat.reduceEqDiff, ↓reduceIte, Nat.zero_ne_one, Nat.one_ne_zero, app_ref, papp1, ty_ref, isL_lst, list_ref, plist1, s_fld, ins_ref, ins1_ins, ps_fld1, putW, fldOf, getW, g_tup2, not_non, not_str, nin_in, in_ref, in1_strs, in1_dT, in1_insF, len_ref1, len1_lst, List.length_map, Nat.zero_add, getD, pe_lc, pi_range1, range1_i, WL.Q.pi_seq, itemsR_ref, items1_lst, itemsR_tup, lenO_ref, lenO1_ins, natC_int, pe_is, isB_some, isR_tup, isR_int, isR_str, isR_bl, isR_non, isR_ref, isR1_lst, isR1_ins, WL.Q.pe_prop, prop1_ins, wp_noX, nP_ok, not_bl, is_non, is_str, is_bl, notnon_bl, isnon_bl, notnon_ref, isnon_ref, is_tg, not_tg, eq_bb, ne_bb, xi, dget_some, psub_ek, list_scr, list_tup, bind_ok, bind_ex, fl_ok, fl_ex, sq_nx, sq_rt, sq_ex, sq_bk, sq_ct, notnon_tup, notnon_int, hH, cellW, notnon_tup, h0, in1_nats, hm]; (try clear hH))
          exact kk _ (by rw [if_neg fun z => z.2 hm]; exact H)
        · ((try simp only [List.set_cons_zero, List.set_cons_succ, List.eraseIdx_cons_zero, List.eraseIdx_cons_succ, List.cons_append, List.nil_append] at H); have hH := H; (try simp only [has_cons, has_nil, dist_cons, dist_nil, ne_eq, and_true, true_and, List.set_cons_zero, List.set_cons_succ] at hH); simp only [wp_bind, wp_fl, wp_sq, wp_out, wpO_ok, wpO_ex, wpF_nx, wpF_rt, wpF_ex, wpF_bk, wpF_ct, bP_ok, bP_ex, lP_ok, lP_ex, qP_nx, qP_rt, qP_ex, qP_bk, qP_ct, oP_rt, oP_nx, oP_ex, loopP_nx, loopP_ct, loopP_bk, loopP_rt, loopP_ex, tgP_ok, wp_try, tryP_nx, tryP_rt, tryP_ct, tryP_bk, offS_rt, offS_nx, br_t, br_f, e_var0, e_varS, e_c, e_bin, a_nil, a_cons, e_fn, e_tup, asB_bl, t_val, asT_bl, t_tru, t_not, t_and, t_or, e_if, e_and, e_or, e_not, e_chain, e_fld, e_con, e_bm, e_star, WL.Q.pe_lst, pe_dict0, pe_dict0K, pe_meth, meth1_ins, con1_ins, s_seq, s_drop, s_ret, s_if, s_next, s_retN, s_asg, s_for, g_nm, g_sub, s_raise, fn_w, out_rt, out_nx, out_ex, set0, setS, lt_ii, le_ii, gt_ii, ge_ii, sub_ii, add_ii, int_i, eq_ii, ne_ii, sub_ref, sub1_lst, sub1_insF, ixSeq0, ixSeq1, ixSeq2, ixSeq3, sub_tup, set_ref, pset_ek, pset_own, startW, List.map_cons, List.map_nil, List.length_cons, List.length_nil, List.replicate_succ, List.replicate_zero, List.cons_append, List.nil_append, Nat.reduceAdd, Nat.reduceSub, Nat.add_sub_cancel, decide_true, decide_false, Bool.not_true, Bool.not_false, List.length_append, List.set_cons_zero, List.set_cons_succ, Nat.reduceLT, Nat.reduceEqDiff, ↓reduceIte, Nat.zero_ne_one, Nat.one_ne_zero, app_ref, papp1, ty_ref, isL_lst, list_ref, plist1, s_fld, ins_ref, ins1_ins, ps_fld1, putW, fldOf, getW, g_tup2, not_non, not_str, nin_in, in_ref, in1_strs, in1_dT, in1_insF, len_ref1, len1_lst, List.length_map, Nat.zero_add, getD, pe_lc, pi_range1, range1_i, WL.Q.pi_seq, itemsR_ref, items1_lst, itemsR_tup, lenO_ref, lenO1_ins, natC_int, pe_is, isB_some, isR_tup, isR_int, isR_str, isR_bl, isR_non, isR_ref, isR1_lst, isR1_ins, WL.Q.pe_prop, prop1_ins, wp_noX, nP_ok, not_bl, is_non, is_str, is_bl, notnon_bl, isnon_bl, notnon_ref, isnon_ref, is_tg, not_tg, eq_bb, ne_bb, xi, dget_some, psub_ek, list_scr, list_tup, bind_ok, bind_ex, fl_ok, fl_ex, sq_nx, sq_rt, sq_ex, sq_bk, sq_ct, notnon_tup, notnon_int, hH, cellW, notnon_tup, h0, in1_nats, hm, fits_of (show o1.length ≤ 1000000 by omega)]; (try clear hH))
          ((try simp only [List.set_cons_zero, List.set_cons_succ, List.eraseIdx_cons_zero, List.eraseIdx_cons_succ, List.cons_append, List.nil_append] at H); first | refine wp_upd H 0 rfl fun _ H => ?_ | refine wp_upd H 1 rfl fun _ H => ?_ | refine wp_upd H 2 rfl fun _ H => ?_ | refine wp_upd H 3 rfl fun _ H => ?_ | refine wp_upd H 4 rfl fun _ H => ?_ | refine wp_upd H 5 rfl fun _ H => ?_ | refine wp_upd H 6 rfl fun _ H => ?_ | refine wp_upd H 7 rfl fun _ H => ?_ | refine wp_upd H 8 rfl fun _ H => ?_ | refine wp_upd H 9 rfl fun _ H => ?_ | refine wp_upd H 10 rfl fun _ H => ?_ | refine wp_upd H 11 rfl fun _ H => ?_ | refine wp_upd H 12 rfl fun _ H => ?_ | refine wp_upd H 13 rfl fun _ H => ?_ | refine wp_upd H 14 rfl fun _ H => ?_ | refine wp_upd H 15 rfl fun _ H => ?_ | refine wp_upd H 16 rfl fun _ H => ?_ | refine wp_upd H 17 rfl fun _ H => ?_ | refine wp_upd H 18 rfl fun _ H => ?_ | refine wp_upd H 19 rfl fun _ H => ?_)
          rw [List.set_cons_zero, snoc_nat] at H
          ((try simp only [List.set_cons_zero, List.set_cons_succ, List.eraseIdx_cons_zero, List.eraseIdx_cons_succ, List.cons_append, List.nil_append] at H); have hH := H; (try simp only [has_cons, has_nil, dist_cons, dist_nil, ne_eq, and_true, true_and, List.set_cons_zero, List.set_cons_succ] at hH); simp only [wp_bind, wp_fl, wp_sq, wp_out, wpO_ok, wpO_ex, wpF_nx, wpF_rt, wpF_ex, wpF_bk, wpF_ct, bP_ok, bP_ex, lP_ok, lP_ex, qP_nx, qP_rt, qP_ex, qP_bk, qP_ct, oP_rt, oP_nx, oP_ex, loopP_nx, loopP_ct, loopP_bk, loopP_rt, loopP_ex, tgP_ok, wp_try, tryP_nx, tryP_rt, tryP_ct, tryP_bk, offS_rt, offS_nx, br_t, br_f, e_var0, e_varS, e_c, e_bin, a_nil, a_cons, e_fn, e_tup, asB_bl, t_val, asT_bl, t_tru, t_not, t_and, t_or, e_if, e_and, e_or, e_not, e_chain, e_fld, e_con, e_bm, e_star, WL.Q.pe_lst, pe_dict0, pe_dict0K, pe_meth, meth1_ins, con1_ins, s_seq, s_drop, s_ret, s_if, s_next, s_retN, s_asg, s_for, g_nm, g_sub, s_raise, fn_w, out_rt, out_nx, out_ex, set0, setS, lt_ii, le_ii, gt_ii, ge_ii, sub_ii, add_ii, int_i, eq_ii, ne_ii, sub_ref, sub1_lst, sub1_insF, ixSeq0, ixSeq1, ixSeq2, ixSeq3, sub_tup, set_ref, pset_ek, pset_own, startW, List.map_cons, List.map_nil, List.length_cons, List.length_nil, List.replicate_succ, List.replicate_zero, List.cons_append, List.nil_append, Nat.reduceAdd, Nat.reduceSub, Nat.add_sub_cancel, decide_true, decide_false, Bool.not_true, Bool.not_false, List.length_append, List.set_cons_zero, List.set_cons_succ, Nat.reduceLT, Nat.reduceEqDiff, ↓reduceIte, Nat.zero_ne_one, Nat.one_ne_zero, app_ref, papp1, ty_ref, isL_lst, list_ref, plist1, s_fld, ins_ref, ins1_ins, ps_fld1, putW, fldOf, getW, g_tup2, not_non, not_str, nin_in, in_ref, in1_strs, in1_dT, in1_insF, len_ref1, len1_lst, List.length_map, Nat.zero_add, getD, pe_lc, pi_range1, range1_i, WL.Q.pi_seq, itemsR_ref, items1_lst, itemsR_tup, lenO_ref, lenO1_ins, natC_int, pe_is, isB_some, isR_tup, isR_int, isR_str, isR_bl, isR_non, isR_ref, isR1_lst, isR1_ins, WL.Q.pe_prop, prop1_ins, wp_noX, nP_ok, not_bl, is_non, is_str, is_bl, notnon_bl, isnon_bl, notnon_ref, isnon_ref, is_tg, not_tg, eq_bb, ne_bb, xi, dget_some, psub_ek, list_scr, list_tup, bind_ok, bind_ex, fl_ok, fl_ex, sq_nx, sq_rt, sq_ex, sq_bk, sq_ct, notnon_tup, notnon_int, hH]; (try clear hH))
          exact kk _ (by rw [if_pos ⟨h0, hm⟩]; exact H)
      · ((try simp only [List.set_cons_zero, List.set_cons_succ, List.eraseIdx_cons_zero, List.eraseIdx_cons_succ, List.cons_append, List.nil_append] at H); have hH := H; (try simp only [has_cons, has_nil, dist_cons, dist_nil, ne_eq, and_true, true_and, List.set_cons_zero, List.set_cons_succ] at hH); simp only [wp_bind, wp_fl, wp_sq, wp_out, wpO_ok, wpO_ex, wpF_nx, wpF_rt, wpF_ex, wpF_bk, wpF_ct, bP_ok, bP_ex, lP_ok, lP_ex, qP_nx, qP_rt, qP_ex, qP_bk, qP_ct, oP_rt, oP_nx, oP_ex, loopP_nx, loopP_ct, loopP_bk, loopP_rt, loopP_ex, tgP_ok, wp_try, tryP_nx, tryP_rt, tryP_ct, tryP_bk, offS_rt, offS_nx, br_t, br_f, e_var0, e_varS, e_c, e_bin, a_nil, a_cons, e_fn, e_tup, asB_bl, t_val, asT_bl, t_tru, t_not, t_and, t_or, e_if, e_and, e_or, e_not, e_chain, e_fld, e_con, e_bm, e_star, WL.Q.pe_lst, pe_dict0, pe_dict0K, pe_meth, meth1_ins, con1_ins, s_seq, s_drop, s_ret, s_if, s_next, s_retN, s_asg, s_for, g_nm, g_sub, s_raise, fn_w, out_rt, out_nx, out_ex, set0, setS, lt_ii, le_ii, gt_ii, ge_ii, sub_ii, add_ii, int_i, eq_ii, ne_ii, sub_ref, sub1_lst, sub1_insF, ixSeq0, ixSeq1, ixSeq2, ixSeq3, sub_tup, set_ref, pset_ek, pset_own, startW, List.map_cons, List.map_nil, List.length_cons, List.length_nil, List.replicate_succ, List.replicate_zero, List.cons_append, List.nil_append, Nat.reduceAdd, Nat.reduceSub, Nat.add_sub_cancel, decide_true, decide_false, Bool.not_true, Bool.not_false, List.length_append, List.set_cons_zero, List.set_cons_succ, Nat.reduceLT, Nat.reduceEqDiff, ↓reduceIte, Nat.zero_ne_one, Nat.one_ne_zero, app_ref, papp1, ty_ref, isL_lst, list_ref, plist1, s_fld, ins_ref, ins1_ins, ps_fld1, putW, fldOf, getW, g_tup2, not_non, not_str, nin_in, in_ref, in1_strs, in1_dT, in1_insF, len_ref1, len1_lst, List.length_map, Nat.zero_add, getD, pe_lc, pi_range1, range1_i, WL.Q.pi_seq, itemsR_ref, items1_lst, itemsR_tup, lenO_ref, lenO1_ins, natC_int, pe_is, isB_some, isR_tup, isR_int, isR_str, isR_bl, isR_non, isR_ref, isR1_lst, isR1_ins, WL.Q.pe_prop, prop1_ins, wp_noX, nP_ok, not_bl, is_non, is_str, is_bl, notnon_bl, isnon_bl, notnon_ref, isnon_ref, is_tg, not_tg, eq_bb, ne_bb, xi, dget_some, psub_ek, list_scr, list_tup, bind_ok, bind_ex, fl_ok, fl_ex, sq_nx, sq_rt, sq_ex, sq_bk, sq_ct, notnon_tup, notnon_int, hH, cellW, notnon_tup, h0]; (try clear hH))
        exact kk _ (by rw [if_neg fun z => h0 z.1]; exact H)
    by_cases hk : k ∈ ord
    · ((try simp only [List.set_cons_zero, List.set_cons_succ, List.eraseIdx_cons_zero, List.eraseIdx_cons_succ, List.cons_append, List.nil_append] at H); have hH := H; (try simp only [has_cons, has_nil, dist_cons, dist_nil, ne_eq, and_true, true_and, List.set_cons_zero, List.set_cons_succ] at hH); simp only [wp_bind, wp_fl, wp_sq, wp_out, wpO_ok, wpO_ex, wpF_nx, wpF_rt, wpF_ex, wpF_bk, wpF_ct, bP_ok, bP_ex, lP_ok, lP_ex, qP_nx, qP_rt, qP_ex, qP_bk, qP_ct, oP_rt, oP_nx, oP_ex, loopP_nx, loopP_ct, loopP_bk, loopP_rt, loopP_ex, tgP_ok, wp_try, tryP_nx, tryP_rt, tryP_ct, tryP_bk, offS_rt, offS_nx, br_t, br_f, e_var0, e_varS, e_c, e_bin, a_nil, a_cons, e_fn, e_tup, asB_bl, t_val, asT_bl, t_tru, t_not, t_and, t_or, e_if, e_and, e_or, e_not, e_chain, e_fld, e_con, e_bm, e_star, WL.Q.pe_lst, pe_dict0, pe_dict0K, pe_meth, meth1_ins, con1_ins, s_seq, s_drop, s_ret, s_if, s_next, s_retN, s_asg, s_for, g_nm, g_sub, s_raise, fn_w, out_rt, out_nx, out_ex, set0, setS, lt_ii, le_ii, gt_ii, ge_ii, sub_ii, add_ii, int_i, eq_ii, ne_ii, sub_ref, sub1_lst, sub1_insF, ixSeq0, ixSeq1, ixSeq2, ixSeq3, sub_tup, set_ref, pset_ek, pset_own, startW, List.map_cons, List.map_nil, List.length_cons, List.length_nil, List.replicate_succ, List.replicate_zero, List.cons_append, List.nil_append, Nat.reduceAdd, Nat.reduceSub, Nat.add_sub_cancel, decide_true, decide_false, Bool.not_true, Bool.not_false, List.length_append, List.set_cons_zero, List.set_cons_succ, Nat.reduceLT, Nat.reduceEqDiff, ↓reduceIte, Nat.zero_ne_one, Nat.one_ne_zero, app_ref, papp1, ty_ref, isL_lst, list_ref, plist1, s_fld, ins_ref, ins1_ins, ps_fld1, putW, fldOf, getW, g_tup2, not_non, not_str, nin_in, in_ref, in1_strs, in1_dT, in1_insF, len_ref1, len1_lst, List.length_map, Nat.zero_add, getD, pe_lc, pi_range1, range1_i, WL.Q.pi_seq, itemsR_ref, items1_lst, itemsR_tup, lenO_ref, lenO1_ins, natC_int, pe_is, isB_some, isR_tup, isR_int, isR_str, isR_bl, isR_non, isR_ref, isR1_lst, isR1_ins, WL.Q.pe_prop, prop1_ins, wp_noX, nP_ok, not_bl, is_non, is_str, is_bl, notnon_bl, isnon_bl, notnon_ref, isnon_ref, is_tg, not_tg, eq_bb, ne_bb, xi, dget_some, psub_ek, list_scr, list_tup, bind_ok, bind_ex, fl_ok, fl_ex, sq_nx, sq_rt, sq_ex, sq_bk, sq_ct, notnon_tup, notnon_int, hH, cellW, notnon_tup, in1_nats, hk]; (try clear hH))
      exact fin ord _ (by rw [if_pos hk]) (by omega) H
    · ((try simp only [List.set_cons_zero, List.set_cons_succ, List.eraseIdx_cons_zero, List.eraseIdx_cons_succ, List.cons_append, List.nil_append] at H); have hH := H; (try simp only [has_cons, has_nil, dist_cons, dist_nil, ne_eq, and_true, true_and, List.set_cons_zero, List.set_cons_succ] at hH); simp only [wp_bind, wp_fl, wp_sq, wp_out, wpO_ok, wpO_ex, wpF_nx, wpF_rt, wpF_ex, wpF_bk, wpF_ct, bP_ok, bP_ex, lP_ok, lP_ex, qP_nx, qP_rt, qP_ex, qP_bk, qP_ct, oP_rt, oP_nx, oP_ex, loopP_nx, loopP_ct, loopP_bk, loopP_rt, loopP_ex, tgP_ok, wp_try, tryP_nx, tryP_rt, tryP_ct, tryP_bk, offS_rt, offS_nx, br_t, br_f, e_var0, e_varS, e_c, e_bin, a_nil, a_cons, e_fn, e_tup, asB_bl, t_val, asT_bl, t_tru, t_not, t_and, t_or, e_if, e_and, e_or, e_not, e_chain, e_fld, e_con, e_bm, e_star, WL.Q.pe_lst, pe_dict0, pe_dict0K, pe_meth, meth1_ins, con1_ins, s_seq, s_drop, s_ret, s_if, s_next, s_retN, s_asg, s_for, g_nm, g_sub, s_raise, fn_w, out_rt, out_nx, out_ex, set0, setS, lt_ii, le_ii, gt_ii, ge_ii, sub_ii, add_ii, int_i, eq_ii, ne_ii, sub_ref, sub1_lst, sub1_insF, ixSeq0, ixSeq1, ixSeq2, ixSeq3, sub_tup, set_ref, pset_ek, pset_own, startW, List.map_cons, List.map_nil, List.length_cons, List.length_nil, List.replicate_succ, List.replicate_zero, List.cons_append, List.nil_append, Nat.reduceAdd, Nat.reduceSub, Nat.add_sub_cancel, decide_true, decide_false, Bool.not_true, Bool.not_false, List.length_append, List.set_cons_zero, List.set_cons_succ, Nat.reduceLT, Nat.reduceEqDiff, ↓reduceIte, Nat.zero_ne_one, Nat.one_ne_zero, app_ref, papp1, ty_ref, isL_lst, list_ref, plist1, s_fld, ins_ref, ins1_ins, ps_fld1, putW, fldOf, getW, g_tup2, not_non, not_str, nin_in, in_ref, in1_strs, in1_dT, in1_insF, len_ref1, len1_lst, List.length_map, Nat.zero_add, getD, pe_lc, pi_range1, range1_i, WL.Q.pi_seq, itemsR_ref, items1_lst, itemsR_tup, lenO_ref, lenO1_ins, natC_int, pe_is, isB_some, isR_tup, isR_int, isR_str, isR_bl, isR_non, isR_ref, isR1_lst, isR1_ins, WL.Q.pe_prop, prop1_ins, wp_noX, nP_ok, not_bl, is_non, is_str, is_bl, notnon_bl, isnon_bl, notnon_ref, isnon_ref, is_tg, not_tg, eq_bb, ne_bb, xi, dget_some, psub_ek, list_scr, list_tup, bind_ok, bind_ex, fl_ok, fl_ex, sq_nx, sq_rt, sq_ex, sq_bk, sq_ct, notnon_tup, notnon_int, hH, cellW, notnon_tup, in1_nats, hk, fits_of (show ord.length ≤ 1000000 by omega)]; (try clear hH))
      ((try simp only [List.set_cons_zero, List.set_cons_succ, List.eraseIdx_cons_zero, List.eraseIdx_cons_succ, List.cons_append, List.nil_append] at H); first | refine wp_upd H 0 rfl fun _ H => ?_ | refine wp_upd H 1 rfl fun _ H => ?_ | refine wp_upd H 2 rfl fun _ H => ?_ | refine wp_upd H 3 rfl fun _ H => ?_ | refine wp_upd H 4 rfl fun _ H => ?_ | refine wp_upd H 5 rfl fun _ H => ?_ | refine wp_upd H 6 rfl fun _ H => ?_ | refine wp_upd H 7 rfl fun _ H => ?_ | refine wp_upd H 8 rfl fun _ H => ?_ | refine wp_upd H 9 rfl fun _ H => ?_ | refine wp_upd H 10 rfl fun _ H => ?_ | refine wp_upd H 11 rfl fun _ H => ?_ | refine wp_upd H 12 rfl fun _ H => ?_ | refine wp_upd H 13 rfl fun _ H => ?_ | refine wp_upd H 14 rfl fun _ H => ?_ | refine wp_upd H 15 rfl fun _ H => ?_ | refine wp_upd H 16 rfl fun _ H => ?_ | refine wp_upd H 17 rfl fun _ H => ?_ | refine wp_upd H 18 rfl fun _ H => ?_ | refine wp_upd H 19 rfl fun _ H => ?_)
      rw [List.set_cons_zero, snoc_nat] at H
      ((try simp only [List.set_cons_zero, List.set_cons_succ, List.eraseIdx_cons_zero, List.eraseIdx_cons_succ, List.cons_append, List.nil_append] at H); have hH := H; (try simp only [has_cons, has_nil, dist_cons, dist_nil, ne_eq, and_true, true_and, List.set_cons_zero, List.set_cons_succ] at hH); simp only [wp_bind, wp_fl, wp_sq, wp_out, wpO_ok, wpO_ex, wpF_nx, wpF_rt, wpF_ex, wpF_bk, wpF_ct, bP_ok, bP_ex, lP_ok, lP_ex, qP_nx, qP_rt, qP_ex, qP_bk, qP_ct, oP_rt, oP_nx, oP_ex, loopP_nx, loopP_ct, loopP_bk, loopP_rt, loopP_ex, tgP_ok, wp_try, tryP_nx, tryP_rt, tryP_ct, tryP_bk, offS_rt, offS_nx, br_t, br_f, e_var0, e_varS, e_c, e_bin, a_nil, a_cons, e_fn, e_tup, asB_bl, t_val, asT_bl, t_tru, t_not, t_and, t_or, e_if, e_and, e_or, e_not, e_chain, e_fld, e_con, e_bm, e_star, WL.Q.pe_lst, pe_dict0, pe_dict0K, pe_meth, meth1_ins, con1_ins, s_seq, s_drop, s_ret, s_if, s_next, s_retN, s_asg, s_for, g_nm, g_sub, s_raise, fn_w, out_rt, out_nx, out_ex, set0, setS, lt_ii, le_ii, gt_ii, ge_ii, sub_ii, add_ii, int_i, eq_ii, ne_ii, sub_ref, sub1_lst, sub1_insF, ixSeq0, ixSeq1, ixSeq2, ixSeq3, sub_tup, set_ref, pset_ek, pset_own, startW, List.map_cons, List.map_nil, List.length_cons, List.length_nil, List.replicate_succ, List.replicate_zero, List.cons_append, List.nil_append, Nat.reduceAdd, Nat.reduceSub, Nat.add_sub_cancel, decide_true, decide_false, Bool.not_true, Bool.not_false, List.length_append, List.set_cons_zero, List.set_cons_succ, Nat.reduceLT, Nat.reduceEqDiff, ↓reduceIte, Nat.zero_ne_one, Nat.one_ne_zero, app_ref, papp1, ty_ref, isL_lst, list_ref, plist1, s_fld, ins_ref, ins1_ins, ps_fld1, putW, fldOf, getW, g_tup2, not_non, not_str, nin_in, in_ref, in1_strs, in1_dT, in1_insF, len_ref1, len1_lst, List.length_map, Nat.zero_add, getD, pe_lc, pi_range1, range1_i, WL.Q.pi_seq, itemsR_ref, items1_lst, itemsR_tup, lenO_ref, lenO1_ins, natC_int, pe_is, isB_some, isR_tup, isR_int, isR_str, isR_bl, isR_non, isR_ref, isR1_lst, isR1_ins, WL.Q.pe_prop, prop1_ins, wp_noX, nP_ok, not_bl, is_non, is_str, is_bl, notnon_bl, isnon_bl, notnon_ref, isnon_ref, is_tg, not_tg, eq_bb, ne_bb, xi, dget_some, psub_ek, list_scr, list_tup, bind_ok, bind_ex, fl_ok, fl_ex, sq_nx, sq_rt, sq_ex, sq_bk, sq_ct, notnon_tup, notnon_int, hH]; (try clear hH))
      exact fin (ord ++ [k]) _ (by rw [if_neg hk]) (by simp; omega) H
theorem sp_order {g : G} {S : List (Nat × GO)} {ir off lr count wide : Nat} {refs : List Nat} {rows : List (List Cell)} {P : Out W → Prop} (H : Has g S) (R : RowsIn S ir off lr refs rows) (ok : RowsOk count wide rows) (hc : 1 ≤ count) (hc2 : count ≤ 900)
    (k : ∀ l g', Has g' ((l, GO.lst ((ordN rows count).map natW)) :: S) → P (.ok (.ref l) g')) : wpO (F_order [.ref lr] g) P := by
  have hrl : refs.length = count := R.len.trans ok.len
  show wpO (f_order [.ref lr] g) P
  unfold f_order m_order
  ((try simp only [List.set_cons_zero, List.set_cons_succ, List.eraseIdx_cons_zero, List.eraseIdx_cons_succ, List.cons_append, List.nil_append] at H); have hH := H; (try simp only [has_cons, has_nil, dist_cons, dist_nil, ne_eq, and_true, true_and, List.set_cons_zero, List.set_cons_succ] at hH); simp only [wp_bind, wp_fl, wp_sq, wp_out, wpO_ok, wpO_ex, wpF_nx, wpF_rt, wpF_ex, wpF_bk, wpF_ct, bP_ok, bP_ex, lP_ok, lP_ex, qP_nx, qP_rt, qP_ex, qP_bk, qP_ct, oP_rt, oP_nx, oP_ex, loopP_nx, loopP_ct, loopP_bk, loopP_rt, loopP_ex, tgP_ok, wp_try, tryP_nx, tryP_rt, tryP_ct, tryP_bk, offS_rt, offS_nx, br_t, br_f, e_var0, e_varS, e_c, e_bin, a_nil, a_cons, e_fn, e_tup, asB_bl, t_val, asT_bl, t_tru, t_not, t_and, t_or, e_if, e_and, e_or, e_not, e_chain, e_fld, e_con, e_bm, e_star, WL.Q.pe_lst, pe_dict0, pe_dict0K, pe_meth, meth1_ins, con1_ins, s_seq, s_drop, s_ret, s_if, s_next, s_retN, s_asg, s_for, g_nm, g_sub, s_raise, fn_w, out_rt, out_nx, out_ex, set0, setS, lt_ii, le_ii, gt_ii, ge_ii, sub_ii, add_ii, int_i, eq_ii, ne_ii, sub_ref, sub1_lst, sub1_insF, ixSeq0, ixSeq1, ixSeq2, ixSeq3, sub_tup, set_ref, pset_ek, pset_own, startW, List.map_cons, List.map_nil, List.length_cons, List.length_nil, List.replicate_succ, List.replicate_zero, List.cons_append, List.nil_append, Nat.reduceAdd, Nat.reduceSub, Nat.add_sub_cancel, decide_true, decide_false, Bool.not_true, Bool.not_false, List.length_append, List.set_cons_zero, List.set_cons_succ, Nat.reduceLT, Nat.reduceEqDiff, ↓reduceIte, Nat.zero_ne_one, Nat.one_ne_zero, app_ref, papp1, ty_ref, isL_lst, list_ref, plist1, s_fld, ins_ref, ins1_ins, ps_fld1, putW, fldOf, getW, g_tup2, not_non, not_str, nin_in, in_ref, in1_strs, in1_dT, in1_insF, len_ref1, len1_lst, List.length_map, Nat.zero_add, getD, pe_lc, pi_range1, range1_i, WL.Q.pi_seq, itemsR_ref, items1_lst, itemsR_tup, lenO_ref, lenO1_ins, natC_int, pe_is, isB_some, isR_tup, isR_int, isR_str, isR_bl, isR_non, isR_ref, isR1_lst, isR1_ins, WL.Q.pe_prop, prop1_ins, wp_noX, nP_ok, not_bl, is_non, is_str, is_bl, notnon_bl, isnon_bl, notnon_ref, isnon_ref, is_tg, not_tg, eq_bb, ne_bb, xi, dget_some, psub_ek, list_scr, list_tup, bind_ok, bind_ex, fl_ok, fl_ex, sq_nx, sq_rt, sq_ex, sq_bk, sq_ct, notnon_tup, notnon_int, hH, fits1]; (try clear hH))
  refine wp_alloc H fun lo g H => ?_
  ((try simp only [List.set_cons_zero, List.set_cons_succ, List.eraseIdx_cons_zero, List.eraseIdx_cons_succ, List.cons_append, List.nil_append] at H); have hH := H; (try simp only [has_cons, has_nil, dist_cons, dist_nil, ne_eq, and_true, true_and, List.set_cons_zero, List.set_cons_succ] at hH); simp only [wp_bind, wp_fl, wp_sq, wp_out, wpO_ok, wpO_ex, wpF_nx, wpF_rt, wpF_ex, wpF_bk, wpF_ct, bP_ok, bP_ex, lP_ok, lP_ex, qP_nx, qP_rt, qP_ex, qP_bk, qP_ct, oP_rt, oP_nx, oP_ex, loopP_nx, loopP_ct, loopP_bk, loopP_rt, loopP_ex, tgP_ok, wp_try, tryP_nx, tryP_rt, tryP_ct, tryP_bk, offS_rt, offS_nx, br_t, br_f, e_var0, e_varS, e_c, e_bin, a_nil, a_cons, e_fn, e_tup, asB_bl, t_val, asT_bl, t_tru, t_not, t_and, t_or, e_if, e_and, e_or, e_not, e_chain, e_fld, e_con, e_bm, e_star, WL.Q.pe_lst, pe_dict0, pe_dict0K, pe_meth, meth1_ins, con1_ins, s_seq, s_drop, s_ret, s_if, s_next, s_retN, s_asg, s_for, g_nm, g_sub, s_raise, fn_w, out_rt, out_nx, out_ex, set0, setS, lt_ii, le_ii, gt_ii, ge_ii, sub_ii, add_ii, int_i, eq_ii, ne_ii, sub_ref, sub1_lst, sub1_insF, ixSeq0, ixSeq1, ixSeq2, ixSeq3, sub_tup, set_ref, pset_ek, pset_own, startW, List.map_cons, List.map_nil, List.length_cons, List.length_nil, List.replicate_succ, List.replicate_zero, List.cons_append, List.nil_append, Nat.reduceAdd, Nat.reduceSub, Nat.add_sub_cancel, decide_true, decide_false, Bool.not_true, Bool.not_false, List.length_append, List.set_cons_zero, List.set_cons_succ, Nat.reduceLT, Nat.reduceEqDiff, ↓reduceIte, Nat.zero_ne_one, Nat.one_ne_zero, app_ref, papp1, ty_ref, isL_lst, list_ref, plist1, s_fld, ins_ref, ins1_ins, ps_fld1, putW, fldOf, getW, g_tup2, not_non, not_str, nin_in, in_ref, in1_strs, in1_dT, in1_insF, len_ref1, len1_lst, List.length_map, Nat.zero_add, getD, pe_lc, pi_range1, range1_i, WL.Q.pi_seq, itemsR_ref, items1_lst, itemsR_tup, lenO_ref, lenO1_ins, natC_int, pe_is, isB_some, isR_tup, isR_int, isR_str, isR_bl, isR_non, isR_ref, isR1_lst, isR1_ins, WL.Q.pe_prop, prop1_ins, wp_noX, nP_ok, not_bl, is_non, is_str, is_bl, notnon_bl, isnon_bl, notnon_ref, isnon_ref, is_tg, not_tg, eq_bb, ne_bb, xi, dget_some, psub_ek, list_scr, list_tup, bind_ok, bind_ex, fl_ok, fl_ex, sq_nx, sq_rt, sq_ex, sq_bk, sq_ct, notnon_tup, notnon_int, hH, H.2.2.get R.hr, hrl, small_nat (show count ≤ 1000 by omega)]; (try clear hH))
  refine wp_for (J := rangeI 0 count) (fun n σ g => ∃ o2 o3, σ = [some (.ref lr), some (.ref lo), o2, o3] ∧ Has g ((lo, GO.lst ((ordN rows n).map natW)) :: S)) ⟨_, _, rfl, H⟩ (fun _ _ _ _ => rfl) (fun n w σ g hw hI => ?_) (fun σ g hI => ?_)
  · obtain ⟨o2, o3, rfl, H⟩ := hI
    obtain ⟨hn, rfl⟩ := range_get hw
    have hnl : n < rows.length := by rw [ok.len]; exact hn
    have hrow := List.getElem?_eq_getElem hnl
    generalize rows[n] = row at hrow
    obtain ⟨r, hr1, hr2⟩ := R.ref hrow
    have ordn := OrdOk.all ok hc n (by omega)
    unfold order_fb2
    ((try simp only [List.set_cons_zero, List.set_cons_succ, List.eraseIdx_cons_zero, List.eraseIdx_cons_succ, List.cons_append, List.nil_append] at H); have hH := H; (try simp only [has_cons, has_nil, dist_cons, dist_nil, ne_eq, and_true, true_and, List.set_cons_zero, List.set_cons_succ] at hH); simp only [wp_bind, wp_fl, wp_sq, wp_out, wpO_ok, wpO_ex, wpF_nx, wpF_rt, wpF_ex, wpF_bk, wpF_ct, bP_ok, bP_ex, lP_ok, lP_ex, qP_nx, qP_rt, qP_ex, qP_bk, qP_ct, oP_rt, oP_nx, oP_ex, loopP_nx, loopP_ct, loopP_bk, loopP_rt, loopP_ex, tgP_ok, wp_try, tryP_nx, tryP_rt, tryP_ct, tryP_bk, offS_rt, offS_nx, br_t, br_f, e_var0, e_varS, e_c, e_bin, a_nil, a_cons, e_fn, e_tup, asB_bl, t_val, asT_bl, t_tru, t_not, t_and, t_or, e_if, e_and, e_or, e_not, e_chain, e_fld, e_con, e_bm, e_star, WL.Q.pe_lst, pe_dict0, pe_dict0K, pe_meth, meth1_ins, con1_ins, s_seq, s_drop, s_ret, s_if, s_next, s_retN, s_asg, s_for, g_nm, g_sub, s_raise, fn_w, out_rt, out_nx, out_ex, set0, setS, lt_ii, le_ii, gt_ii, ge_ii, sub_ii, add_ii, int_i, eq_ii, ne_ii, sub_ref, sub1_lst, sub1_insF, ixSeq0, ixSeq1, ixSeq2, ixSeq3, sub_tup, set_ref, pset_ek, pset_own, startW, List.map_cons, List.map_nil, List.length_cons, List.length_nil, List.replicate_succ, List.replicate_zero, List.cons_append, List.nil_append, Nat.reduceAdd, Nat.reduceSub, Nat.add_sub_cancel, decide_true, decide_false, Bool.not_true, Bool.not_false, List.length_append, List.set_cons_zero, List.set_cons_succ, Nat.reduceLT, Nat.reduceEqDiff, ↓reduceIte, Nat.zero_ne_one, Nat.one_ne_zero, app_ref, papp1, ty_ref, isL_lst, list_ref, plist1, s_fld, ins_ref, ins1_ins, ps_fld1, putW, fldOf, getW, g_tup2, not_non, not_str, nin_in, in_ref, in1_strs, in1_dT, in1_insF, len_ref1, len1_lst, List.length_map, Nat.zero_add, getD, pe_lc, pi_range1, range1_i, WL.Q.pi_seq, itemsR_ref, items1_lst, itemsR_tup, lenO_ref, lenO1_ins, natC_int, pe_is, isB_some, isR_tup, isR_int, isR_str, isR_bl, isR_non, isR_ref, isR1_lst, isR1_ins, WL.Q.pe_prop, prop1_ins, wp_noX, nP_ok, not_bl, is_non, is_str, is_bl, notnon_bl, isnon_bl, notnon_ref, isnon_ref, is_tg, not_tg, eq_bb, ne_bb, xi, dget_some, psub_ek, list_scr, list_tup, bind_ok, bind_ex, fl_ok, fl_ex, sq_nx, sq_rt, sq_ex, sq_bk, sq_ct, notnon_tup, notnon_int, hH, H.2.2.get R.hr, ix_refs hr1, (H.2.2.get hr2).trans (congrArg some (show rowW row = GO.lst (row.map cellW) from rfl))]; (try clear hH))
    refine wp_for (J := ⟨row.map cellW, some r⟩) (fun j σ g => ∃ o3, σ = [some (.ref lr), some (.ref lo), some (.int (n : Nat)), o3] ∧ Has g ((lo, GO.lst ((ordRow (ordN rows n) n (row.take j)).map natW)) :: S)) ⟨_, rfl, H⟩ (fun j σ g hI => ?_) (fun j w σ g hw hI => ?_) (fun σ g hI => ?_)
    · obtain ⟨_, _, H⟩ := hI
      exact decide_eq_true (H.2.2.get hr2)
    · obtain ⟨o3, rfl, H⟩ := hI
      have hw2 : (row.map cellW)[j]? = some w := hw
      rw [List.getElem?_map, Option.map_eq_some_iff] at hw2
      cases hw2 with
      | intro c hcc =>
      have hc3 := hcc.1
      have hc4 := hcc.2
      clear hcc
      subst hc4
      have hcok : CellOk count c := ok.cell row (List.mem_of_getElem? hrow) c (List.mem_of_getElem? hc3)
      have ordj := OrdOk.row (k := n) hn (row := row.take j) ordn fun c hc => ok.cell row (List.mem_of_getElem? hrow) c (List.mem_of_mem_take hc)
      have := ordj.len
      ((try simp only [List.set_cons_zero, List.set_cons_succ, List.eraseIdx_cons_zero, List.eraseIdx_cons_succ, List.cons_append, List.nil_append] at H); have hH := H; (try simp only [has_cons, has_nil, dist_cons, dist_nil, ne_eq, and_true, true_and, List.set_cons_zero, List.set_cons_succ] at hH); simp only [wp_bind, wp_fl, wp_sq, wp_out, wpO_ok, wpO_ex, wpF_nx, wpF_rt, wpF_ex, wpF_bk, wpF_ct, bP_ok, bP_ex, lP_ok, lP_ex, qP_nx, qP_rt, qP_ex, qP_bk, qP_ct, oP_rt, oP_nx, oP_ex, loopP_nx, loopP_ct, loopP_bk, loopP_rt, loopP_ex, tgP_ok, wp_try, tryP_nx, tryP_rt, tryP_ct, tryP_bk, offS_rt, offS_nx, br_t, br_f, e_var0, e_varS, e_c, e_bin, a_nil, a_cons, e_fn, e_tup, asB_bl, t_val, asT_bl, t_tru, t_not, t_and, t_or, e_if, e_and, e_or, e_not, e_chain, e_fld, e_con, e_bm, e_star, WL.Q.pe_lst, pe_dict0, pe_dict0K, pe_meth, meth1_ins, con1_ins, s_seq, s_drop, s_ret, s_if, s_next, s_retN, s_asg, s_for, g_nm, g_sub, s_raise, fn_w, out_rt, out_nx, out_ex, set0, setS, lt_ii, le_ii, gt_ii, ge_ii, sub_ii, add_ii, int_i, eq_ii, ne_ii, sub_ref, sub1_lst, sub1_insF, ixSeq0, ixSeq1, ixSeq2, ixSeq3, sub_tup, set_ref, pset_ek, pset_own, startW, List.map_cons, List.map_nil, List.length_cons, List.length_nil, List.replicate_succ, List.replicate_zero, List.cons_append, List.nil_append, Nat.reduceAdd, Nat.reduceSub, Nat.add_sub_cancel, decide_true, decide_false, Bool.not_true, Bool.not_false, List.length_append, List.set_cons_zero, List.set_cons_succ, Nat.reduceLT, Nat.reduceEqDiff, ↓reduceIte, Nat.zero_ne_one, Nat.one_ne_zero, app_ref, papp1, ty_ref, isL_lst, list_ref, plist1, s_fld, ins_ref, ins1_ins, ps_fld1, putW, fldOf, getW, g_tup2, not_non, not_str, nin_in, in_ref, in1_strs, in1_dT, in1_insF, len_ref1, len1_lst, List.length_map, Nat.zero_add, getD, pe_lc, pi_range1, range1_i, WL.Q.pi_seq, itemsR_ref, items1_lst, itemsR_tup, lenO_ref, lenO1_ins, natC_int, pe_is, isB_some, isR_tup, isR_int, isR_str, isR_bl, isR_non, isR_ref, isR1_lst, isR1_ins, WL.Q.pe_prop, prop1_ins, wp_noX, nP_ok, not_bl, is_non, is_str, is_bl, notnon_bl, isnon_bl, notnon_ref, isnon_ref, is_tg, not_tg, eq_bb, ne_bb, xi, dget_some, psub_ek, list_scr, list_tup, bind_ok, bind_ex, fl_ok, fl_ex, sq_nx, sq_rt, sq_ex, sq_bk, sq_ct, notnon_tup, notnon_int, hH]; (try clear hH))
      refine order_step H (by omega) hcok fun g' H => ?_
      rw [loopP_nx]
      exact ⟨_, rfl, by rw [ordRow_succ hc3]; exact H⟩
    · obtain ⟨o3, rfl, H⟩ := hI
      rw [loopP_nx]
      refine ⟨_, _, rfl, ?_⟩
      dsimp only at H
      rw [List.length_map, List.take_length] at H
      rw [ordN_succ hrow]
      exact H
  · obtain ⟨o2, o3, rfl, H⟩ := hI
    rw [range_len] at H
    ((try simp only [List.set_cons_zero, List.set_cons_succ, List.eraseIdx_cons_zero, List.eraseIdx_cons_succ, List.cons_append, List.nil_append] at H); have hH := H; (try simp only [has_cons, has_nil, dist_cons, dist_nil, ne_eq, and_true, true_and, List.set_cons_zero, List.set_cons_succ] at hH); simp only [wp_bind, wp_fl, wp_sq, wp_out, wpO_ok, wpO_ex, wpF_nx, wpF_rt, wpF_ex, wpF_bk, wpF_ct, bP_ok, bP_ex, lP_ok, lP_ex, qP_nx, qP_rt, qP_ex, qP_bk, qP_ct, oP_rt, oP_nx, oP_ex, loopP_nx, loopP_ct, loopP_bk, loopP_rt, loopP_ex, tgP_ok, wp_try, tryP_nx, tryP_rt, tryP_ct, tryP_bk, offS_rt, offS_nx, br_t, br_f, e_var0, e_varS, e_c, e_bin, a_nil, a_cons, e_fn, e_tup, asB_bl, t_val, asT_bl, t_tru, t_not, t_and, t_or, e_if, e_and, e_or, e_not, e_chain, e_fld, e_con, e_bm, e_star, WL.Q.pe_lst, pe_dict0, pe_dict0K, pe_meth, meth1_ins, con1_ins, s_seq, s_drop, s_ret, s_if, s_next, s_retN, s_asg, s_for, g_nm, g_sub, s_raise, fn_w, out_rt, out_nx, out_ex, set0, setS, lt_ii, le_ii, gt_ii, ge_ii, sub_ii, add_ii, int_i, eq_ii, ne_ii, sub_ref, sub1_lst, sub1_insF, ixSeq0, ixSeq1, ixSeq2, ixSeq3, sub_tup, set_ref, pset_ek, pset_own, startW, List.map_cons, List.map_nil, List.length_cons, List.length_nil, List.replicate_succ, List.replicate_zero, List.cons_append, List.nil_append, Nat.reduceAdd, Nat.reduceSub, Nat.add_sub_cancel, decide_true, decide_false, Bool.not_true, Bool.not_false, List.length_append, List.set_cons_zero, List.set_cons_succ, Nat.reduceLT, Nat.reduceEqDiff, ↓reduceIte, Nat.zero_ne_one, Nat.one_ne_zero, app_ref, papp1, ty_ref, isL_lst, list_ref, plist1, s_fld, ins_ref, ins1_ins, ps_fld1, putW, fldOf, getW, g_tup2, not_non, not_str, nin_in, in_ref, in1_strs, in1_dT, in1_insF, len_ref1, len1_lst, List.length_map, Nat.zero_add, getD, pe_lc, pi_range1, range1_i, WL.Q.pi_seq, itemsR_ref, items1_lst, itemsR_tup, lenO_ref, lenO1_ins, natC_int, pe_is, isB_some, isR_tup, isR_int, isR_str, isR_bl, isR_non, isR_ref, isR1_lst, isR1_ins, WL.Q.pe_prop, prop1_ins, wp_noX, nP_ok, not_bl, is_non, is_str, is_bl, notnon_bl, isnon_bl, notnon_ref, isnon_ref, is_tg, not_tg, eq_bb, ne_bb, xi, dget_some, psub_ek, list_scr, list_tup, bind_ok, bind_ex, fl_ok, fl_ex, sq_nx, sq_rt, sq_ex, sq_bk, sq_ct, notnon_tup, notnon_int, hH, order_r3]; (try clear hH))
    exact k _ _ H
def sprop1 (d : Disp) (x y : W) (σ : Sg) (g : G) (o : Option (Nat × Nat × List (Nat × W))) : Fl := match o with
  | some (_, c, _) => match getD c d with
    | some F => (F [x, y] g).fl σ fun _ g => .nx σ g
    | none => .bad
  | none => .bad
theorem s_prop {d : Disp} {o v : ED} {σ : Sg} {g : G} : sProp d o v σ g = (v σ g).fl σ fun y g => (o σ g).fl σ fun x g => sprop1 d x y σ g (insAt g x) := (rfl)
theorem sprop1_ins {d : Disp} {x y : W} {σ : Sg} {g : G} {l c : Nat} {fs : List (Nat × W)} : sprop1 d x y σ g (some (l, c, fs)) = match getD c d with
    | some F => (F [x, y] g).fl σ fun _ g => .nx σ g
    | none => .bad := (rfl)
theorem sp_start_at {g : G} {S : List (Nat × GO)} {ic il ie c ln le : Nat} {wide : Int} {start s : Str} {nodes : List Str} {edges : List (List Key × W)} {P : Out W → Prop} (H : Has g S) (C : Ch S ic il ie c ln le wide start nodes edges) (hs : s ∈ nodes)
    (k : ∀ g', Has g' (S.set ic (c, insC wide s ln le)) → P (.ok .non g')) : wpO (F_Chart_start_at [.ref c, .str s] g) P := by
  show wpO (f_Chart_start_at [.ref c, .str s] g) P
  unfold f_Chart_start_at m_Chart_start_at
  have inner : wpO (F_Chart_start_set [.ref c, .str s] g) (fun r => ∃ g', r = .ok .non g' ∧ Has g' (S.set ic (c, insC wide s ln le))) := by
    show wpO (f_Chart_start_set [.ref c, .str s] g) _
    unfold f_Chart_start_set m_Chart_start_set
    ((try simp only [List.set_cons_zero, List.set_cons_succ, List.eraseIdx_cons_zero, List.eraseIdx_cons_succ, List.cons_append, List.nil_append] at H); have hH := H; (try simp only [has_cons, has_nil, dist_cons, dist_nil, ne_eq, and_true, true_and, List.set_cons_zero, List.set_cons_succ] at hH); simp only [wp_bind, wp_fl, wp_sq, wp_out, wpO_ok, wpO_ex, wpF_nx, wpF_rt, wpF_ex, wpF_bk, wpF_ct, bP_ok, bP_ex, lP_ok, lP_ex, qP_nx, qP_rt, qP_ex, qP_bk, qP_ct, oP_rt, oP_nx, oP_ex, loopP_nx, loopP_ct, loopP_bk, loopP_rt, loopP_ex, tgP_ok, wp_try, tryP_nx, tryP_rt, tryP_ct, tryP_bk, offS_rt, offS_nx, br_t, br_f, e_var0, e_varS, e_c, e_bin, a_nil, a_cons, e_fn, e_tup, asB_bl, t_val, asT_bl, t_tru, t_not, t_and, t_or, e_if, e_and, e_or, e_not, e_chain, e_fld, e_con, e_bm, e_star, WL.Q.pe_lst, pe_dict0, pe_dict0K, pe_meth, meth1_ins, con1_ins, s_seq, s_drop, s_ret, s_if, s_next, s_retN, s_asg, s_for, g_nm, g_sub, s_raise, fn_w, out_rt, out_nx, out_ex, set0, setS, lt_ii, le_ii, gt_ii, ge_ii, sub_ii, add_ii, int_i, eq_ii, ne_ii, sub_ref, sub1_lst, sub1_insF, ixSeq0, ixSeq1, ixSeq2, ixSeq3, sub_tup, set_ref, pset_ek, pset_own, startW, List.map_cons, List.map_nil, List.length_cons, List.length_nil, List.replicate_succ, List.replicate_zero, List.cons_append, List.nil_append, Nat.reduceAdd, Nat.reduceSub, Nat.add_sub_cancel, decide_true, decide_false, Bool.not_true, Bool.not_false, List.length_append, List.set_cons_zero, List.set_cons_succ, Nat.reduceLT, Nat.reduceEqDiff, ↓reduceIte, Nat.zero_ne_one, Nat.one_ne_zero, app_ref, papp1, ty_ref, isL_lst, list_ref, plist1, s_fld, ins_ref, ins1_ins, ps_fld1, putW, fldOf, getW, g_tup2, not_non, not_str, nin_in, in_ref, in1_strs, in1_dT, in1_insF, len_ref1, len1_lst, List.length_map, Nat.zero_add, getD, pe_lc, pi_range1, range1_i, WL.Q.pi_seq, itemsR_ref, items1_lst, itemsR_tup, lenO_ref, lenO1_ins, natC_int, pe_is, isB_some, isR_tup, isR_int, isR_str, isR_bl, isR_non, isR_ref, isR1_lst, isR1_ins, WL.Q.pe_prop, prop1_ins, wp_noX, nP_ok, not_bl, is_non, is_str, is_bl, notnon_bl, isnon_bl, notnon_ref, isnon_ref, is_tg, not_tg, eq_bb, ne_bb, xi, dget_some, psub_ek, list_scr, list_tup, bind_ok, bind_ex, fl_ok, fl_ex, sq_nx, sq_rt, sq_ex, sq_bk, sq_ct, notnon_tup, notnon_int, hH, H.get C.hc, H.get C.hl, hs, Chart_start_set_r0]; (try clear hH))
    refine wp_upd H ic C.hc fun g H => ?_
    ((try simp only [List.set_cons_zero, List.set_cons_succ, List.eraseIdx_cons_zero, List.eraseIdx_cons_succ, List.cons_append, List.nil_append] at H); have hH := H; (try simp only [has_cons, has_nil, dist_cons, dist_nil, ne_eq, and_true, true_and, List.set_cons_zero, List.set_cons_succ] at hH); simp only [wp_bind, wp_fl, wp_sq, wp_out, wpO_ok, wpO_ex, wpF_nx, wpF_rt, wpF_ex, wpF_bk, wpF_ct, bP_ok, bP_ex, lP_ok, lP_ex, qP_nx, qP_rt, qP_ex, qP_bk, qP_ct, oP_rt, oP_nx, oP_ex, loopP_nx, loopP_ct, loopP_bk, loopP_rt, loopP_ex, tgP_ok, wp_try, tryP_nx, tryP_rt, tryP_ct, tryP_bk, offS_rt, offS_nx, br_t, br_f, e_var0, e_varS, e_c, e_bin, a_nil, a_cons, e_fn, e_tup, asB_bl, t_val, asT_bl, t_tru, t_not, t_and, t_or, e_if, e_and, e_or, e_not, e_chain, e_fld, e_con, e_bm, e_star, WL.Q.pe_lst, pe_dict0, pe_dict0K, pe_meth, meth1_ins, con1_ins, s_seq, s_drop, s_ret, s_if, s_next, s_retN, s_asg, s_for, g_nm, g_sub, s_raise, fn_w, out_rt, out_nx, out_ex, set0, setS, lt_ii, le_ii, gt_ii, ge_ii, sub_ii, add_ii, int_i, eq_ii, ne_ii, sub_ref, sub1_lst, sub1_insF, ixSeq0, ixSeq1, ixSeq2, ixSeq3, sub_tup, set_ref, pset_ek, pset_own, startW, List.map_cons, List.map_nil, List.length_cons, List.length_nil, List.replicate_succ, List.replicate_zero, List.cons_append, List.nil_append, Nat.reduceAdd, Nat.reduceSub, Nat.add_sub_cancel, decide_true, decide_false, Bool.not_true, Bool.not_false, List.length_append, List.set_cons_zero, List.set_cons_succ, Nat.reduceLT, Nat.reduceEqDiff, ↓reduceIte, Nat.zero_ne_one, Nat.one_ne_zero, app_ref, papp1, ty_ref, isL_lst, list_ref, plist1, s_fld, ins_ref, ins1_ins, ps_fld1, putW, fldOf, getW, g_tup2, not_non, not_str, nin_in, in_ref, in1_strs, in1_dT, in1_insF, len_ref1, len1_lst, List.length_map, Nat.zero_add, getD, pe_lc, pi_range1, range1_i, WL.Q.pi_seq, itemsR_ref, items1_lst, itemsR_tup, lenO_ref, lenO1_ins, natC_int, pe_is, isB_some, isR_tup, isR_int, isR_str, isR_bl, isR_non, isR_ref, isR1_lst, isR1_ins, WL.Q.pe_prop, prop1_ins, wp_noX, nP_ok, not_bl, is_non, is_str, is_bl, notnon_bl, isnon_bl, notnon_ref, isnon_ref, is_tg, not_tg, eq_bb, ne_bb, xi, dget_some, psub_ek, list_scr, list_tup, bind_ok, bind_ex, fl_ok, fl_ex, sq_nx, sq_rt, sq_ex, sq_bk, sq_ct, notnon_tup, notnon_int, hH]; (try clear hH))
    exact ⟨_, rfl, H⟩
  obtain ⟨g', e, H'⟩ := inner
  ((try simp only [List.set_cons_zero, List.set_cons_succ, List.eraseIdx_cons_zero, List.eraseIdx_cons_succ, List.cons_append, List.nil_append] at H); have hH := H; (try simp only [has_cons, has_nil, dist_cons, dist_nil, ne_eq, and_true, true_and, List.set_cons_zero, List.set_cons_succ] at hH); simp only [wp_bind, wp_fl, wp_sq, wp_out, wpO_ok, wpO_ex, wpF_nx, wpF_rt, wpF_ex, wpF_bk, wpF_ct, bP_ok, bP_ex, lP_ok, lP_ex, qP_nx, qP_rt, qP_ex, qP_bk, qP_ct, oP_rt, oP_nx, oP_ex, loopP_nx, loopP_ct, loopP_bk, loopP_rt, loopP_ex, tgP_ok, wp_try, tryP_nx, tryP_rt, tryP_ct, tryP_bk, offS_rt, offS_nx, br_t, br_f, e_var0, e_varS, e_c, e_bin, a_nil, a_cons, e_fn, e_tup, asB_bl, t_val, asT_bl, t_tru, t_not, t_and, t_or, e_if, e_and, e_or, e_not, e_chain, e_fld, e_con, e_bm, e_star, WL.Q.pe_lst, pe_dict0, pe_dict0K, pe_meth, meth1_ins, con1_ins, s_seq, s_drop, s_ret, s_if, s_next, s_retN, s_asg, s_for, g_nm, g_sub, s_raise, fn_w, out_rt, out_nx, out_ex, set0, setS, lt_ii, le_ii, gt_ii, ge_ii, sub_ii, add_ii, int_i, eq_ii, ne_ii, sub_ref, sub1_lst, sub1_insF, ixSeq0, ixSeq1, ixSeq2, ixSeq3, sub_tup, set_ref, pset_ek, pset_own, startW, List.map_cons, List.map_nil, List.length_cons, List.length_nil, List.replicate_succ, List.replicate_zero, List.cons_append, List.nil_append, Nat.reduceAdd, Nat.reduceSub, Nat.add_sub_cancel, decide_true, decide_false, Bool.not_true, Bool.not_false, List.length_append, List.set_cons_zero, List.set_cons_succ, Nat.reduceLT, Nat.reduceEqDiff, ↓reduceIte, Nat.zero_ne_one, Nat.one_ne_zero, app_ref, papp1, ty_ref, isL_lst, list_ref, plist1, s_fld, ins_ref, ins1_ins, ps_fld1, putW, fldOf, getW, g_tup2, not_non, not_str, nin_in, in_ref, in1_strs, in1_dT, in1_insF, len_ref1, len1_lst, List.length_map, Nat.zero_add, getD, pe_lc, pi_range1, range1_i, WL.Q.pi_seq, itemsR_ref, items1_lst, itemsR_tup, lenO_ref, lenO1_ins, natC_int, pe_is, isB_some, isR_tup, isR_int, isR_str, isR_bl, isR_non, isR_ref, isR1_lst, isR1_ins, WL.Q.pe_prop, prop1_ins, wp_noX, nP_ok, not_bl, is_non, is_str, is_bl, notnon_bl, isnon_bl, notnon_ref, isnon_ref, is_tg, not_tg, eq_bb, ne_bb, xi, dget_some, psub_ek, list_scr, list_tup, bind_ok, bind_ex, fl_ok, fl_ex, sq_nx, sq_rt, sq_ex, sq_bk, sq_ct, notnon_tup, notnon_int, hH, s_prop, sprop1_ins, H.get C.hc, e]; (try clear hH))
  exact k _ H'
/-- a name that no node has -/
theorem sp_start_no {g : G} {S : List (Nat × GO)} {ic il ie c ln le : Nat} {wide : Int} {start s : Str} {nodes : List Str} {edges : List (List Key × W)} {P : Out W → Prop} (H : Has g S) (C : Ch S ic il ie c ln le wide start nodes edges) (hs : s ∉ nodes)
    (k : P (.ex 3 [(6, .str s)] g)) : wpO (F_Chart_start_at [.ref c, .str s] g) P := by
  show wpO (f_Chart_start_at [.ref c, .str s] g) P
  unfold f_Chart_start_at m_Chart_start_at
  have inner : wpO (F_Chart_start_set [.ref c, .str s] g) (fun r => r = .ex 3 [(6, .str s)] g) := by
    show wpO (f_Chart_start_set [.ref c, .str s] g) _
    unfold f_Chart_start_set m_Chart_start_set
    ((try simp only [List.set_cons_zero, List.set_cons_succ, List.eraseIdx_cons_zero, List.eraseIdx_cons_succ, List.cons_append, List.nil_append] at H); have hH := H; (try simp only [has_cons, has_nil, dist_cons, dist_nil, ne_eq, and_true, true_and, List.set_cons_zero, List.set_cons_succ] at hH); simp only [wp_bind, wp_fl, wp_sq, wp_out, wpO_ok, wpO_ex, wpF_nx, wpF_rt, wpF_ex, wpF_bk, wpF_ct, bP_ok, bP_ex, lP_ok, lP_ex, qP_nx, qP_rt, qP_ex, qP_bk, qP_ct, oP_rt, oP_nx, oP_ex, loopP_nx, loopP_ct, loopP_bk, loopP_rt, loopP_ex, tgP_ok, wp_try, tryP_nx, tryP_rt, tryP_ct, tryP_bk, offS_rt, offS_nx, br_t, br_f, e_var0, e_varS, e_c, e_bin, a_nil, a_cons, e_fn, e_tup, asB_bl, t_val, asT_bl, t_tru, t_not, t_and, t_or, e_if, e_and, e_or, e_not, e_chain, e_fld, e_con, e_bm, e_star, WL.Q.pe_lst, pe_dict0, pe_dict0K, pe_meth, meth1_ins, con1_ins, s_seq, s_drop, s_ret, s_if, s_next, s_retN, s_asg, s_for, g_nm, g_sub, s_raise, fn_w, out_rt, out_nx, out_ex, set0, setS, lt_ii, le_ii, gt_ii, ge_ii, sub_ii, add_ii, int_i, eq_ii, ne_ii, sub_ref, sub1_lst, sub1_insF, ixSeq0, ixSeq1, ixSeq2, ixSeq3, sub_tup, set_ref, pset_ek, pset_own, startW, List.map_cons, List.map_nil, List.length_cons, List.length_nil, List.replicate_succ, List.replicate_zero, List.cons_append, List.nil_append, Nat.reduceAdd, Nat.reduceSub, Nat.add_sub_cancel, decide_true, decide_false, Bool.not_true, Bool.not_false, List.length_append, List.set_cons_zero, List.set_cons_succ, Nat.reduceLT, Nat.reduceEqDiff, ↓reduceIte, Nat.zero_ne_one, Nat.one_ne_zero, app_ref, papp1, ty_ref, isL_lst, list_ref, plist1, s_fld, ins_ref, ins1_ins, ps_fld1, putW, fldOf, getW, g_tup2, not_non, not_str, nin_in, in_ref, in1_strs, in1_dT, in1_insF, len_ref1, len1_lst, List.length_map, Nat.zero_add, getD, pe_lc, pi_range1, range1_i, WL.Q.pi_seq, itemsR_ref, items1_lst, itemsR_tup, lenO_ref, lenO1_ins, natC_int, pe_is, isB_some, isR_tup, isR_int, isR_str, isR_bl, isR_non, isR_ref, isR1_lst, isR1_ins, WL.Q.pe_prop, prop1_ins, wp_noX, nP_ok, not_bl, is_non, is_str, is_bl, notnon_bl, isnon_bl, notnon_ref, isnon_ref, is_tg, not_tg, eq_bb, ne_bb, xi, dget_some, psub_ek, list_scr, list_tup, bind_ok, bind_ex, fl_ok, fl_ex, sq_nx, sq_rt, sq_ex, sq_bk, sq_ct, notnon_tup, notnon_int, hH, H.get C.hc, H.get C.hl, hs]; (try clear hH))
    rfl
  have e : F_Chart_start_set [.ref c, .str s] g = .ex 3 [(6, .str s)] g := inner
  ((try simp only [List.set_cons_zero, List.set_cons_succ, List.eraseIdx_cons_zero, List.eraseIdx_cons_succ, List.cons_append, List.nil_append] at H); have hH := H; (try simp only [has_cons, has_nil, dist_cons, dist_nil, ne_eq, and_true, true_and, List.set_cons_zero, List.set_cons_succ] at hH); simp only [wp_bind, wp_fl, wp_sq, wp_out, wpO_ok, wpO_ex, wpF_nx, wpF_rt, wpF_ex, wpF_bk, wpF_ct, bP_ok, bP_ex, lP_ok, lP_ex, qP_nx, qP_rt, qP_ex, qP_bk, qP_ct, oP_rt, oP_nx, oP_ex, loopP_nx, loopP_ct, loopP_bk, loopP_rt, loopP_ex, tgP_ok, wp_try, tryP_nx, tryP_rt, tryP_ct, tryP_bk, offS_rt, offS_nx, br_t, br_f, e_var0, e_varS, e_c, e_bin, a_nil, a_cons, e_fn, e_tup, asB_bl, t_val, asT_bl, t_tru, t_not, t_and, t_or, e_if, e_and, e_or, e_not, e_chain, e_fld, e_con, e_bm, e_star, WL.Q.pe_lst, pe_dict0, pe_dict0K, pe_meth, meth1_ins, con1_ins, s_seq, s_drop, s_ret, s_if, s_next, s_retN, s_asg, s_for, g_nm, g_sub, s_raise, fn_w, out_rt, out_nx, out_ex, set0, setS, lt_ii, le_ii, gt_ii, ge_ii, sub_ii, add_ii, int_i, eq_ii, ne_ii, sub_ref, sub1_lst, sub1_insF, ixSeq0, ixSeq1, ixSeq2, ixSeq3, sub_tup, set_ref, pset_ek, pset_own, startW, List.map_cons, List.map_nil, List.length_cons, List.length_nil, List.replicate_succ, List.replicate_zero, List.cons_append, List.nil_append, Nat.reduceAdd, Nat.reduceSub, Nat.add_sub_cancel, decide_true, decide_false, Bool.not_true, Bool.not_false, List.length_append, List.set_cons_zero, List.set_cons_succ, Nat.reduceLT, Nat.reduceEqDiff, ↓reduceIte, Nat.zero_ne_one, Nat.one_ne_zero, app_ref, papp1, ty_ref, isL_lst, list_ref, plist1, s_fld, ins_ref, ins1_ins, ps_fld1, putW, fldOf, getW, g_tup2, not_non, not_str, nin_in, in_ref, in1_strs, in1_dT, in1_insF, len_ref1, len1_lst, List.length_map, Nat.zero_add, getD, pe_lc, pi_range1, range1_i, WL.Q.pi_seq, itemsR_ref, items1_lst, itemsR_tup, lenO_ref, lenO1_ins, natC_int, pe_is, isB_some, isR_tup, isR_int, isR_str, isR_bl, isR_non, isR_ref, isR1_lst, isR1_ins, WL.Q.pe_prop, prop1_ins, wp_noX, nP_ok, not_bl, is_non, is_str, is_bl, notnon_bl, isnon_bl, notnon_ref, isnon_ref, is_tg, not_tg, eq_bb, ne_bb, xi, dget_some, psub_ek, list_scr, list_tup, bind_ok, bind_ex, fl_ok, fl_ex, sq_nx, sq_rt, sq_ex, sq_bk, sq_ct, notnon_tup, notnon_int, hH, s_prop, sprop1_ins, H.get C.hc, e]; (try clear hH))
  exact k
/-- an edge's value -/
def edgeV (names acts : List Str) : Cell → Option W
  | none => none
  | some (a, t) => some (.tup [.str (nth acts a), tgW (tgOf names t)])
/-- the table holds the cells of p and no others -/
def Holds (names acts : List Str) (count : Nat) (rows : List (List Cell)) (p : Nat → Nat → Prop) (edges : List (List Key × W)) : Prop :=
  ∀ k j, k < count → (p k j → getK (ek (nth names k) (j : Nat)) edges = edgeV names acts (cellAt rows k j)) ∧ (¬ p k j → getK (ek (nth names k) (j : Nat)) edges = none)
theorem ek_inj {a b : Str} {i j : Int} (h : ek a i = ek b j) : a = b ∧ i = j := by
  unfold ek at h
  injection h with h1 h2
  injection h2 with h2 h3
  injection h1 with h1
  injection h2 with h2
  exact ⟨h1, h2⟩
theorem Holds.put {names acts : List Str} {count : Nat} {rows : List (List Cell)} {p p' : Nat → Nat → Prop} {edges : List (List Key × W)} (h : Holds names acts count rows p edges) (nd : names.Nodup) (hl : count ≤ names.length) {n j : Nat} (hn : n < count) {v : W} (hv : edgeV names acts (cellAt rows n j) = some v)
    (hp : ∀ k i, p' k i ↔ p k i ∨ (k = n ∧ i = j)) : Holds names acts count rows p' (putKW (ek (nth names n) (j : Nat)) v edges) := fun k i hk => by
  by_cases e : k = n ∧ i = j
  · obtain ⟨rfl, rfl⟩ := e
    exact ⟨fun _ => by rw [getK_put, hv], fun q => absurd ((hp k i).mpr (.inr ⟨rfl, rfl⟩)) q⟩
  · have ne : ek (nth names k) (i : Nat) ≠ ek (nth names n) (j : Nat) := fun z => by
      obtain ⟨a, b⟩ := ek_inj z
      exact e ⟨nth_inj nd (by omega) (by omega) a, by omega⟩
    rw [getK_put_ne ne]
    refine ⟨fun q => ?_, fun q => ?_⟩
    · rcases (hp k i).mp q with z | z
      · exact (h k i hk).1 z
      · exact absurd z e
    · exact (h k i hk).2 fun z => q ((hp k i).mpr (.inl z))
theorem Holds.skip {names acts : List Str} {count : Nat} {rows : List (List Cell)} {p p' : Nat → Nat → Prop} {edges : List (List Key × W)} (h : Holds names acts count rows p edges) {n j : Nat} (hc : cellAt rows n j = none)
    (hp : ∀ k i, p' k i ↔ p k i ∨ (k = n ∧ i = j)) : Holds names acts count rows p' edges := fun k i hk => by
  refine ⟨fun q => ?_, fun q => (h k i hk).2 fun z => q ((hp k i).mpr (.inl z))⟩
  rcases (hp k i).mp q with z | z
  · exact (h k i hk).1 z
  · obtain ⟨rfl, rfl⟩ := z
    by_cases z : p k i
    · exact (h k i hk).1 z
    · rw [(h k i hk).2 z, hc]; rfl
theorem Holds.iff {names acts : List Str} {count : Nat} {rows : List (List Cell)} {p p' : Nat → Nat → Prop} {edges : List (List Key × W)} (h : Holds names acts count rows p edges) (hp : ∀ k i, k < count → (p' k i ↔ p k i)) : Holds names acts count rows p' edges := fun k i hk =>
  ⟨fun q => (h k i hk).1 ((hp k i hk).mp q), fun q => (h k i hk).2 fun z => q ((hp k i hk).mpr z)⟩
structure Names (names : List Str) (n : Nat) : Prop where
  nm : ∀ s ∈ names, Nm s
  nd : names.Nodup
  len : names.length = n
theorem tgOf_ok {names : List Str} {count : Nat} (hN : ∀ s ∈ names, Nm s) (hl : count ≤ names.length) {a : Nat} {t : Int} (hc : CellOk count (some (a, t))) : TgOk (tgOf names t) := by
  unfold tgOf
  split
  · have := hc.2.2
    exact hN _ (nth_mem (by omega))
  · trivial
theorem part_step {g : G} {S : List (Nat × GO)} {ir off lr lN lA iN iA c ln le count wide n j r : Nat} {refs : List Nat} {rows : List (List Cell)} {row : List Cell} {cell : Cell} {names acts : List Str} {start : Str} {nodes : List Str} {edges : List (List Key × W)} {o6 : Option W} {P : Fl → Prop}
    (R : RowsIn S ir off lr refs rows) (hr1 : refs[n]? = some r) (hr2 : S[off + n]? = some (r, rowW row)) (hcell : row[j]? = some cell) (hcok : CellOk count cell) (hNi : S[iN]? = some (lN, GO.lst (names.map W.str))) (hAi : S[iA]? = some (lA, GO.lst (acts.map W.str)))
    (hN : ∀ s ∈ names, Nm s) (hnl : count ≤ names.length) (hA : ∀ s ∈ acts, Nm s) (hal : 4 ≤ acts.length) (hn : n < count) (hj : j < wide) (hnode : nodes.length ≤ 1000) (hed : edges.length ≤ 1000)
    (hsmall : ∀ a t, cell = some (a, t) → (grown nodes (nth names n) (tgOf names t)).length ≤ 16)
    (H : Has g ((c, insC wide start ln le) :: (ln, GO.lst (nodes.map W.str)) :: (le, GO.dT edges) :: S))
    (k1 : cell = none → ∀ o6 g', Has g' ((c, insC wide start ln le) :: (ln, GO.lst (nodes.map W.str)) :: (le, GO.dT edges) :: S) → P (.nx [some (.ref lr), some (.ref lN), some (.ref lA), some (.ref c), some (.int (n : Nat)), some (.int (j : Nat)), o6] g'))
    (k2 : ∀ a t, cell = some (a, t) → ∀ o6 ln' g', Has g' ((c, insC wide start ln' le) :: (ln', GO.lst ((grown nodes (nth names n) (tgOf names t)).map W.str)) :: (le, GO.dT (putKW (ek (nth names n) (j : Nat)) (.tup [.str (nth acts a), tgW (tgOf names t)]) edges)) :: S) → P (.nx [some (.ref lr), some (.ref lN), some (.ref lA), some (.ref c), some (.int (n : Nat)), some (.int (j : Nat)), o6] g')) :
    wpF (part_fb0 [some (.ref lr), some (.ref lN), some (.ref lA), some (.ref c), some (.int (n : Nat)), some (.int (j : Nat)), o6] g) P := by
  have F0 : ∀ {g : G} {x y z : Nat × GO}, Has g (x :: y :: z :: S) → Has g S := fun h => h.2.2.2.2.2.2
  unfold part_fb0
  cases cell with
  | none =>
    ((try simp only [List.set_cons_zero, List.set_cons_succ, List.eraseIdx_cons_zero, List.eraseIdx_cons_succ, List.cons_append, List.nil_append] at H); have hH := H; (try simp only [has_cons, has_nil, dist_cons, dist_nil, ne_eq, and_true, true_and, List.set_cons_zero, List.set_cons_succ] at hH); simp only [wp_bind, wp_fl, wp_sq, wp_out, wpO_ok, wpO_ex, wpF_nx, wpF_rt, wpF_ex, wpF_bk, wpF_ct, bP_ok, bP_ex, lP_ok, lP_ex, qP_nx, qP_rt, qP_ex, qP_bk, qP_ct, oP_rt, oP_nx, oP_ex, loopP_nx, loopP_ct, loopP_bk, loopP_rt, loopP_ex, tgP_ok, wp_try, tryP_nx, tryP_rt, tryP_ct, tryP_bk, offS_rt, offS_nx, br_t, br_f, e_var0, e_varS, e_c, e_bin, a_nil, a_cons, e_fn, e_tup, asB_bl, t_val, asT_bl, t_tru, t_not, t_and, t_or, e_if, e_and, e_or, e_not, e_chain, e_fld, e_con, e_bm, e_star, WL.Q.pe_lst, pe_dict0, pe_dict0K, pe_meth, meth1_ins, con1_ins, s_seq, s_drop, s_ret, s_if, s_next, s_retN, s_asg, s_for, g_nm, g_sub, s_raise, fn_w, out_rt, out_nx, out_ex, set0, setS, lt_ii, le_ii, gt_ii, ge_ii, sub_ii, add_ii, int_i, eq_ii, ne_ii, sub_ref, sub1_lst, sub1_insF, ixSeq0, ixSeq1, ixSeq2, ixSeq3, sub_tup, set_ref, pset_ek, pset_own, startW, List.map_cons, List.map_nil, List.length_cons, List.length_nil, List.replicate_succ, List.replicate_zero, List.cons_append, List.nil_append, Nat.reduceAdd, Nat.reduceSub, Nat.add_sub_cancel, decide_true, decide_false, Bool.not_true, Bool.not_false, List.length_append, List.set_cons_zero, List.set_cons_succ, Nat.reduceLT, Nat.reduceEqDiff, ↓reduceIte, Nat.zero_ne_one, Nat.one_ne_zero, app_ref, papp1, ty_ref, isL_lst, list_ref, plist1, s_fld, ins_ref, ins1_ins, ps_fld1, putW, fldOf, getW, g_tup2, not_non, not_str, nin_in, in_ref, in1_strs, in1_dT, in1_insF, len_ref1, len1_lst, List.length_map, Nat.zero_add, getD, pe_lc, pi_range1, range1_i, WL.Q.pi_seq, itemsR_ref, items1_lst, itemsR_tup, lenO_ref, lenO1_ins, natC_int, pe_is, isB_some, isR_tup, isR_int, isR_str, isR_bl, isR_non, isR_ref, isR1_lst, isR1_ins, WL.Q.pe_prop, prop1_ins, wp_noX, nP_ok, not_bl, is_non, is_str, is_bl, notnon_bl, isnon_bl, notnon_ref, isnon_ref, is_tg, not_tg, eq_bb, ne_bb, xi, dget_some, psub_ek, list_scr, list_tup, bind_ok, bind_ex, fl_ok, fl_ex, sq_nx, sq_rt, sq_ex, sq_bk, sq_ct, notnon_tup, notnon_int, hH, (F0 H).get R.hr, ix_refs hr1, ((F0 H).get hr2).trans (congrArg some (show rowW row = GO.lst (row.map cellW) from rfl)), ix_cell hcell, cellW]; (try clear hH))
    exact k1 rfl _ _ H
  | some p =>
    obtain ⟨a, t⟩ := p
    have ha : a < acts.length := Nat.lt_of_lt_of_le hcok.1 hal
    have etg : ∀ (g : G), br (decide (0 ≤ t)) (ixSeq (names.map W.str) (.int t) g) (Out.ok W.non g) = Out.ok (tgW (tgOf names t)) g := fun g => by
      unfold tgOf
      by_cases h : 0 ≤ t
      · obtain ⟨tn, rfl⟩ : ∃ tn : Nat, t = tn := ⟨t.toNat, by omega⟩
        have := hcok.2.2
        rw [decide_eq_true h, br_t, ix_nth (by omega), if_pos h]
        rfl
      · rw [decide_eq_false h, br_f, if_neg h]
        rfl
    have hnm : Nm (nth names n) := hN _ (nth_mem (by omega))
    have ham : Nm (nth acts a) := hA _ (nth_mem ha)
    have htg : TgOk (tgOf names t) := tgOf_ok hN hnl hcok
    ((try simp only [List.set_cons_zero, List.set_cons_succ, List.eraseIdx_cons_zero, List.eraseIdx_cons_succ, List.cons_append, List.nil_append] at H); have hH := H; (try simp only [has_cons, has_nil, dist_cons, dist_nil, ne_eq, and_true, true_and, List.set_cons_zero, List.set_cons_succ] at hH); simp only [wp_bind, wp_fl, wp_sq, wp_out, wpO_ok, wpO_ex, wpF_nx, wpF_rt, wpF_ex, wpF_bk, wpF_ct, bP_ok, bP_ex, lP_ok, lP_ex, qP_nx, qP_rt, qP_ex, qP_bk, qP_ct, oP_rt, oP_nx, oP_ex, loopP_nx, loopP_ct, loopP_bk, loopP_rt, loopP_ex, tgP_ok, wp_try, tryP_nx, tryP_rt, tryP_ct, tryP_bk, offS_rt, offS_nx, br_t, br_f, e_var0, e_varS, e_c, e_bin, a_nil, a_cons, e_fn, e_tup, asB_bl, t_val, asT_bl, t_tru, t_not, t_and, t_or, e_if, e_and, e_or, e_not, e_chain, e_fld, e_con, e_bm, e_star, WL.Q.pe_lst, pe_dict0, pe_dict0K, pe_meth, meth1_ins, con1_ins, s_seq, s_drop, s_ret, s_if, s_next, s_retN, s_asg, s_for, g_nm, g_sub, s_raise, fn_w, out_rt, out_nx, out_ex, set0, setS, lt_ii, le_ii, gt_ii, ge_ii, sub_ii, add_ii, int_i, eq_ii, ne_ii, sub_ref, sub1_lst, sub1_insF, ixSeq0, ixSeq1, ixSeq2, ixSeq3, sub_tup, set_ref, pset_ek, pset_own, startW, List.map_cons, List.map_nil, List.length_cons, List.length_nil, List.replicate_succ, List.replicate_zero, List.cons_append, List.nil_append, Nat.reduceAdd, Nat.reduceSub, Nat.add_sub_cancel, decide_true, decide_false, Bool.not_true, Bool.not_false, List.length_append, List.set_cons_zero, List.set_cons_succ, Nat.reduceLT, Nat.reduceEqDiff, ↓reduceIte, Nat.zero_ne_one, Nat.one_ne_zero, app_ref, papp1, ty_ref, isL_lst, list_ref, plist1, s_fld, ins_ref, ins1_ins, ps_fld1, putW, fldOf, getW, g_tup2, not_non, not_str, nin_in, in_ref, in1_strs, in1_dT, in1_insF, len_ref1, len1_lst, List.length_map, Nat.zero_add, getD, pe_lc, pi_range1, range1_i, WL.Q.pi_seq, itemsR_ref, items1_lst, itemsR_tup, lenO_ref, lenO1_ins, natC_int, pe_is, isB_some, isR_tup, isR_int, isR_str, isR_bl, isR_non, isR_ref, isR1_lst, isR1_ins, WL.Q.pe_prop, prop1_ins, wp_noX, nP_ok, not_bl, is_non, is_str, is_bl, notnon_bl, isnon_bl, notnon_ref, isnon_ref, is_tg, not_tg, eq_bb, ne_bb, xi, dget_some, psub_ek, list_scr, list_tup, bind_ok, bind_ex, fl_ok, fl_ex, sq_nx, sq_rt, sq_ex, sq_bk, sq_ct, notnon_tup, notnon_int, hH, (F0 H).get R.hr, ix_refs hr1, ((F0 H).get hr2).trans (congrArg some (show rowW row = GO.lst (row.map cellW) from rfl)), ix_cell hcell, cellW, notnon_tup, (F0 H).get hNi, (F0 H).get hAi, ix_nth ha, etg, fits2', ix_nth (show n < names.length by omega)]; (try clear hH))
    refine sp_set (ic := 0) (il := 1) (ie := 2) H ⟨rfl, rfl, rfl⟩ hnm ham htg (by omega) hnode hed (fun h16 => absurd (hsmall a t rfl) (by omega)) fun _ ln' g H => ?_
    ((try simp only [List.set_cons_zero, List.set_cons_succ, List.eraseIdx_cons_zero, List.eraseIdx_cons_succ, List.cons_append, List.nil_append] at H); have hH := H; (try simp only [has_cons, has_nil, dist_cons, dist_nil, ne_eq, and_true, true_and, List.set_cons_zero, List.set_cons_succ] at hH); simp only [wp_bind, wp_fl, wp_sq, wp_out, wpO_ok, wpO_ex, wpF_nx, wpF_rt, wpF_ex, wpF_bk, wpF_ct, bP_ok, bP_ex, lP_ok, lP_ex, qP_nx, qP_rt, qP_ex, qP_bk, qP_ct, oP_rt, oP_nx, oP_ex, loopP_nx, loopP_ct, loopP_bk, loopP_rt, loopP_ex, tgP_ok, wp_try, tryP_nx, tryP_rt, tryP_ct, tryP_bk, offS_rt, offS_nx, br_t, br_f, e_var0, e_varS, e_c, e_bin, a_nil, a_cons, e_fn, e_tup, asB_bl, t_val, asT_bl, t_tru, t_not, t_and, t_or, e_if, e_and, e_or, e_not, e_chain, e_fld, e_con, e_bm, e_star, WL.Q.pe_lst, pe_dict0, pe_dict0K, pe_meth, meth1_ins, con1_ins, s_seq, s_drop, s_ret, s_if, s_next, s_retN, s_asg, s_for, g_nm, g_sub, s_raise, fn_w, out_rt, out_nx, out_ex, set0, setS, lt_ii, le_ii, gt_ii, ge_ii, sub_ii, add_ii, int_i, eq_ii, ne_ii, sub_ref, sub1_lst, sub1_insF, ixSeq0, ixSeq1, ixSeq2, ixSeq3, sub_tup, set_ref, pset_ek, pset_own, startW, List.map_cons, List.map_nil, List.length_cons, List.length_nil, List.replicate_succ, List.replicate_zero, List.cons_append, List.nil_append, Nat.reduceAdd, Nat.reduceSub, Nat.add_sub_cancel, decide_true, decide_false, Bool.not_true, Bool.not_false, List.length_append, List.set_cons_zero, List.set_cons_succ, Nat.reduceLT, Nat.reduceEqDiff, ↓reduceIte, Nat.zero_ne_one, Nat.one_ne_zero, app_ref, papp1, ty_ref, isL_lst, list_ref, plist1, s_fld, ins_ref, ins1_ins, ps_fld1, putW, fldOf, getW, g_tup2, not_non, not_str, nin_in, in_ref, in1_strs, in1_dT, in1_insF, len_ref1, len1_lst, List.length_map, Nat.zero_add, getD, pe_lc, pi_range1, range1_i, WL.Q.pi_seq, itemsR_ref, items1_lst, itemsR_tup, lenO_ref, lenO1_ins, natC_int, pe_is, isB_some, isR_tup, isR_int, isR_str, isR_bl, isR_non, isR_ref, isR1_lst, isR1_ins, WL.Q.pe_prop, prop1_ins, wp_noX, nP_ok, not_bl, is_non, is_str, is_bl, notnon_bl, isnon_bl, notnon_ref, isnon_ref, is_tg, not_tg, eq_bb, ne_bb, xi, dget_some, psub_ek, list_scr, list_tup, bind_ok, bind_ex, fl_ok, fl_ex, sq_nx, sq_rt, sq_ex, sq_bk, sq_ct, notnon_tup, notnon_int, hH]; (try clear hH))
    exact k2 a t rfl _ ln' g (H.repl 1)
end Q
end WL
end
section
set_option maxRecDepth 100000
set_option maxHeartbeats 1000000
namespace WL
namespace Q
open PySem PySem.Spec L2
open PyProof.Rows hiding St
open PySem.Builtin.Str
set_option autoImplicit true
theorem sp_part {g : G} {S : List (Nat × GO)} {ir off lr lN lA iN iA count wide : Nat} {refs : List Nat} {rows : List (List Cell)} {names acts : List Str} {P : Out W → Prop}
    (H : Has g S) (R : RowsIn S ir off lr refs rows) (ok : RowsOk count wide rows) (hNi : S[iN]? = some (lN, GO.lst (names.map W.str))) (hAi : S[iA]? = some (lA, GO.lst (acts.map W.str)))
    (hN : ∀ s ∈ names, Nm s) (nd : names.Nodup) (hnl : count ≤ names.length) (hA : ∀ s ∈ acts, Nm s) (hal : 4 ≤ acts.length) (hc1 : 1 ≤ count) (hc2 : count ≤ 16) (hw1 : 1 ≤ wide) (hw2 : wide ≤ 4)
    (k : ∀ c ln le edges g', Holds names acts count rows (fun _ _ => True) edges → EdgesOk edges → edges.length ≤ count * wide → Has g' ((c, insC wide (nth names 0) ln le) :: (ln, GO.lst (((ordN rows count).map (nth names)).map W.str)) :: (le, GO.dT edges) :: S) → P (.ok (.ref c) g')) :
    wpO (F_part [.ref lr, .ref lN, .ref lA] g) P := by
  have hrl : refs.length = count := R.len.trans ok.len
  have h0l : 0 < rows.length := by rw [ok.len]; omega
  obtain ⟨r0, h0a, h0b⟩ := R.ref (List.getElem?_eq_getElem h0l)
  have w0 : (rows[0]).length = wide := ok.wid _ (List.getElem_mem h0l)
  generalize rows[0] = row0 at h0b w0
  have e0 : ixSeq (refs.map W.ref) (.int 0) g = Out.ok (.ref r0) g := ix_refs (k := 0) h0a
  have F0 : ∀ {g : G} {x y z : Nat × GO}, Has g (x :: y :: z :: S) → Has g S := fun h => h.2.2.2.2.2.2
  show wpO (f_part [.ref lr, .ref lN, .ref lA] g) P
  unfold f_part m_part
  ((try simp only [List.set_cons_zero, List.set_cons_succ, List.eraseIdx_cons_zero, List.eraseIdx_cons_succ, List.cons_append, List.nil_append] at H); have hH := H; (try simp only [has_cons, has_nil, dist_cons, dist_nil, ne_eq, and_true, true_and, List.set_cons_zero, List.set_cons_succ] at hH); simp only [wp_bind, wp_fl, wp_sq, wp_out, wpO_ok, wpO_ex, wpF_nx, wpF_rt, wpF_ex, wpF_bk, wpF_ct, bP_ok, bP_ex, lP_ok, lP_ex, qP_nx, qP_rt, qP_ex, qP_bk, qP_ct, oP_rt, oP_nx, oP_ex, loopP_nx, loopP_ct, loopP_bk, loopP_rt, loopP_ex, tgP_ok, wp_try, tryP_nx, tryP_rt, tryP_ct, tryP_bk, offS_rt, offS_nx, br_t, br_f, e_var0, e_varS, e_c, e_bin, a_nil, a_cons, e_fn, e_tup, asB_bl, t_val, asT_bl, t_tru, t_not, t_and, t_or, e_if, e_and, e_or, e_not, e_chain, e_fld, e_con, e_bm, e_star, WL.Q.pe_lst, pe_dict0, pe_dict0K, pe_meth, meth1_ins, con1_ins, s_seq, s_drop, s_ret, s_if, s_next, s_retN, s_asg, s_for, g_nm, g_sub, s_raise, fn_w, out_rt, out_nx, out_ex, set0, setS, lt_ii, le_ii, gt_ii, ge_ii, sub_ii, add_ii, int_i, eq_ii, ne_ii, sub_ref, sub1_lst, sub1_insF, ixSeq0, ixSeq1, ixSeq2, ixSeq3, sub_tup, set_ref, pset_ek, pset_own, startW, List.map_cons, List.map_nil, List.length_cons, List.length_nil, List.replicate_succ, List.replicate_zero, List.cons_append, List.nil_append, Nat.reduceAdd, Nat.reduceSub, Nat.add_sub_cancel, decide_true, decide_false, Bool.not_true, Bool.not_false, List.length_append, List.set_cons_zero, List.set_cons_succ, Nat.reduceLT, Nat.reduceEqDiff, ↓reduceIte, Nat.zero_ne_one, Nat.one_ne_zero, app_ref, papp1, ty_ref, isL_lst, list_ref, plist1, s_fld, ins_ref, ins1_ins, ps_fld1, putW, fldOf, getW, g_tup2, not_non, not_str, nin_in, in_ref, in1_strs, in1_dT, in1_insF, len_ref1, len1_lst, List.length_map, Nat.zero_add, getD, pe_lc, pi_range1, range1_i, WL.Q.pi_seq, itemsR_ref, items1_lst, itemsR_tup, lenO_ref, lenO1_ins, natC_int, pe_is, isB_some, isR_tup, isR_int, isR_str, isR_bl, isR_non, isR_ref, isR1_lst, isR1_ins, WL.Q.pe_prop, prop1_ins, wp_noX, nP_ok, not_bl, is_non, is_str, is_bl, notnon_bl, isnon_bl, notnon_ref, isnon_ref, is_tg, not_tg, eq_bb, ne_bb, xi, dget_some, psub_ek, list_scr, list_tup, bind_ok, bind_ex, fl_ok, fl_ex, sq_nx, sq_rt, sq_ex, sq_bk, sq_ct, s_prop, sprop1_ins, notnon_tup, notnon_int, hH, H.get R.hr, e0, (H.get h0b).trans (congrArg some (show rowW row0 = GO.lst (row0.map cellW) from rfl)), w0, H.get hNi, ix_nth0 (show 0 < names.length by omega)]; (try clear hH))
  refine sp_init H (by omega) (by omega) (hN _ (nth_mem (by omega))) fun c ln le g H => ?_
  ((try simp only [List.set_cons_zero, List.set_cons_succ, List.eraseIdx_cons_zero, List.eraseIdx_cons_succ, List.cons_append, List.nil_append] at H); have hH := H; (try simp only [has_cons, has_nil, dist_cons, dist_nil, ne_eq, and_true, true_and, List.set_cons_zero, List.set_cons_succ] at hH); simp only [wp_bind, wp_fl, wp_sq, wp_out, wpO_ok, wpO_ex, wpF_nx, wpF_rt, wpF_ex, wpF_bk, wpF_ct, bP_ok, bP_ex, lP_ok, lP_ex, qP_nx, qP_rt, qP_ex, qP_bk, qP_ct, oP_rt, oP_nx, oP_ex, loopP_nx, loopP_ct, loopP_bk, loopP_rt, loopP_ex, tgP_ok, wp_try, tryP_nx, tryP_rt, tryP_ct, tryP_bk, offS_rt, offS_nx, br_t, br_f, e_var0, e_varS, e_c, e_bin, a_nil, a_cons, e_fn, e_tup, asB_bl, t_val, asT_bl, t_tru, t_not, t_and, t_or, e_if, e_and, e_or, e_not, e_chain, e_fld, e_con, e_bm, e_star, WL.Q.pe_lst, pe_dict0, pe_dict0K, pe_meth, meth1_ins, con1_ins, s_seq, s_drop, s_ret, s_if, s_next, s_retN, s_asg, s_for, g_nm, g_sub, s_raise, fn_w, out_rt, out_nx, out_ex, set0, setS, lt_ii, le_ii, gt_ii, ge_ii, sub_ii, add_ii, int_i, eq_ii, ne_ii, sub_ref, sub1_lst, sub1_insF, ixSeq0, ixSeq1, ixSeq2, ixSeq3, sub_tup, set_ref, pset_ek, pset_own, startW, List.map_cons, List.map_nil, List.length_cons, List.length_nil, List.replicate_succ, List.replicate_zero, List.cons_append, List.nil_append, Nat.reduceAdd, Nat.reduceSub, Nat.add_sub_cancel, decide_true, decide_false, Bool.not_true, Bool.not_false, List.length_append, List.set_cons_zero, List.set_cons_succ, Nat.reduceLT, Nat.reduceEqDiff, ↓reduceIte, Nat.zero_ne_one, Nat.one_ne_zero, app_ref, papp1, ty_ref, isL_lst, list_ref, plist1, s_fld, ins_ref, ins1_ins, ps_fld1, putW, fldOf, getW, g_tup2, not_non, not_str, nin_in, in_ref, in1_strs, in1_dT, in1_insF, len_ref1, len1_lst, List.length_map, Nat.zero_add, getD, pe_lc, pi_range1, range1_i, WL.Q.pi_seq, itemsR_ref, items1_lst, itemsR_tup, lenO_ref, lenO1_ins, natC_int, pe_is, isB_some, isR_tup, isR_int, isR_str, isR_bl, isR_non, isR_ref, isR1_lst, isR1_ins, WL.Q.pe_prop, prop1_ins, wp_noX, nP_ok, not_bl, is_non, is_str, is_bl, notnon_bl, isnon_bl, notnon_ref, isnon_ref, is_tg, not_tg, eq_bb, ne_bb, xi, dget_some, psub_ek, list_scr, list_tup, bind_ok, bind_ex, fl_ok, fl_ex, sq_nx, sq_rt, sq_ex, sq_bk, sq_ct, s_prop, sprop1_ins, notnon_tup, notnon_int, hH, (F0 H).get R.hr, hrl, small_nat (show count ≤ 1000 by omega)]; (try clear hH))
  refine wp_for (J := rangeI 0 count) (fun n σ g => ∃ ln edges o4 o5 o6, σ = [some (.ref lr), some (.ref lN), some (.ref lA), some (.ref c), o4, o5, o6] ∧ Holds names acts count rows (fun k j => k < n) edges ∧ EdgesOk edges ∧ edges.length ≤ n * wide ∧
      Has g ((c, insC wide (nth names 0) ln le) :: (ln, GO.lst (((ordN rows n).map (nth names)).map W.str)) :: (le, GO.dT edges) :: S))
    ⟨ln, [], _, _, _, rfl, fun k j _ => ⟨fun h => absurd h (Nat.not_lt_zero _), fun _ => rfl⟩, .nil, by simp, H⟩ (fun _ _ _ _ => rfl) (fun n w σ g hw hI => ?_) (fun σ g hI => ?_)
  · obtain ⟨ln, edges, o4, o5, o6, rfl, hH, hE, hel, H⟩ := hI
    obtain ⟨hn, rfl⟩ := range_get hw
    have hnl2 : n < rows.length := by rw [ok.len]; exact hn
    have hrow := List.getElem?_eq_getElem hnl2
    have hwid : (rows[n]).length = wide := ok.wid _ (List.getElem_mem hnl2)
    generalize rows[n] = row at hrow hwid
    obtain ⟨r, hr1, hr2⟩ := R.ref hrow
    have ordn := OrdOk.all ok hc1 n (by omega)
    have hnw : n * wide ≤ 64 := Nat.le_trans (Nat.mul_le_mul (show n ≤ 16 by omega) hw2) (by decide)
    unfold part_fb1
    ((try simp only [List.set_cons_zero, List.set_cons_succ, List.eraseIdx_cons_zero, List.eraseIdx_cons_succ, List.cons_append, List.nil_append] at H); have hH := H; (try simp only [has_cons, has_nil, dist_cons, dist_nil, ne_eq, and_true, true_and, List.set_cons_zero, List.set_cons_succ] at hH); simp only [wp_bind, wp_fl, wp_sq, wp_out, wpO_ok, wpO_ex, wpF_nx, wpF_rt, wpF_ex, wpF_bk, wpF_ct, bP_ok, bP_ex, lP_ok, lP_ex, qP_nx, qP_rt, qP_ex, qP_bk, qP_ct, oP_rt, oP_nx, oP_ex, loopP_nx, loopP_ct, loopP_bk, loopP_rt, loopP_ex, tgP_ok, wp_try, tryP_nx, tryP_rt, tryP_ct, tryP_bk, offS_rt, offS_nx, br_t, br_f, e_var0, e_varS, e_c, e_bin, a_nil, a_cons, e_fn, e_tup, asB_bl, t_val, asT_bl, t_tru, t_not, t_and, t_or, e_if, e_and, e_or, e_not, e_chain, e_fld, e_con, e_bm, e_star, WL.Q.pe_lst, pe_dict0, pe_dict0K, pe_meth, meth1_ins, con1_ins, s_seq, s_drop, s_ret, s_if, s_next, s_retN, s_asg, s_for, g_nm, g_sub, s_raise, fn_w, out_rt, out_nx, out_ex, set0, setS, lt_ii, le_ii, gt_ii, ge_ii, sub_ii, add_ii, int_i, eq_ii, ne_ii, sub_ref, sub1_lst, sub1_insF, ixSeq0, ixSeq1, ixSeq2, ixSeq3, sub_tup, set_ref, pset_ek, pset_own, startW, List.map_cons, List.map_nil, List.length_cons, List.length_nil, List.replicate_succ, List.replicate_zero, List.cons_append, List.nil_append, Nat.reduceAdd, Nat.reduceSub, Nat.add_sub_cancel, decide_true, decide_false, Bool.not_true, Bool.not_false, List.length_append, List.set_cons_zero, List.set_cons_succ, Nat.reduceLT, Nat.reduceEqDiff, ↓reduceIte, Nat.zero_ne_one, Nat.one_ne_zero, app_ref, papp1, ty_ref, isL_lst, list_ref, plist1, s_fld, ins_ref, ins1_ins, ps_fld1, putW, fldOf, getW, g_tup2, not_non, not_str, nin_in, in_ref, in1_strs, in1_dT, in1_insF, len_ref1, len1_lst, List.length_map, Nat.zero_add, getD, pe_lc, pi_range1, range1_i, WL.Q.pi_seq, itemsR_ref, items1_lst, itemsR_tup, lenO_ref, lenO1_ins, natC_int, pe_is, isB_some, isR_tup, isR_int, isR_str, isR_bl, isR_non, isR_ref, isR1_lst, isR1_ins, WL.Q.pe_prop, prop1_ins, wp_noX, nP_ok, not_bl, is_non, is_str, is_bl, notnon_bl, isnon_bl, notnon_ref, isnon_ref, is_tg, not_tg, eq_bb, ne_bb, xi, dget_some, psub_ek, list_scr, list_tup, bind_ok, bind_ex, fl_ok, fl_ex, sq_nx, sq_rt, sq_ex, sq_bk, sq_ct, s_prop, sprop1_ins, notnon_tup, notnon_int, hH, (F0 H).get R.hr, ix_refs hr1, ((F0 H).get hr2).trans (congrArg some (show rowW row = GO.lst (row.map cellW) from rfl)), hwid, small_nat (show wide ≤ 1000 by omega)]; (try clear hH))
    refine wp_for (J := rangeI 0 wide) (fun j σ g => ∃ ln edges o5 o6, σ = [some (.ref lr), some (.ref lN), some (.ref lA), some (.ref c), some (.int (n : Nat)), o5, o6] ∧ Holds names acts count rows (fun k i => k < n ∨ (k = n ∧ i < j)) edges ∧ EdgesOk edges ∧ edges.length ≤ n * wide + j ∧
        Has g ((c, insC wide (nth names 0) ln le) :: (ln, GO.lst (((ordRow (ordN rows n) n (row.take j)).map (nth names)).map W.str)) :: (le, GO.dT edges) :: S))
      ⟨ln, edges, _, _, rfl, hH.iff fun k i _ => ⟨fun q => q.elim id fun z => absurd z.2 (Nat.not_lt_zero _), .inl⟩, hE, hel, H⟩ (fun _ _ _ _ => rfl) (fun j w σ g hw hI => ?_) (fun σ g hI => ?_)
    · obtain ⟨ln, edges, o5, o6, rfl, hH, hE, hel, H⟩ := hI
      obtain ⟨hj, rfl⟩ := range_get hw
      have hjl : j < row.length := by omega
      have hcell := List.getElem?_eq_getElem hjl
      generalize row[j] = cell at hcell
      have hcok : CellOk count cell := ok.cell row (List.mem_of_getElem? hrow) cell (List.mem_of_getElem? hcell)
      have ordj := OrdOk.row (k := n) hn (row := row.take j) ordn fun c hc => ok.cell row (List.mem_of_getElem? hrow) c (List.mem_of_mem_take hc)
      have hol := ordj.len
      have hat : cellAt rows n j = cell := cellAt_of hrow hcell
      have hpp : ∀ k i, ((k < n ∨ (k = n ∧ i < j + 1)) ↔ ((k < n ∨ (k = n ∧ i < j)) ∨ (k = n ∧ i = j))) := fun k i => by omega
      ((try simp only [List.set_cons_zero, List.set_cons_succ, List.eraseIdx_cons_zero, List.eraseIdx_cons_succ, List.cons_append, List.nil_append] at H); have hH := H; (try simp only [has_cons, has_nil, dist_cons, dist_nil, ne_eq, and_true, true_and, List.set_cons_zero, List.set_cons_succ] at hH); simp only [wp_bind, wp_fl, wp_sq, wp_out, wpO_ok, wpO_ex, wpF_nx, wpF_rt, wpF_ex, wpF_bk, wpF_ct, bP_ok, bP_ex, lP_ok, lP_ex, qP_nx, qP_rt, qP_ex, qP_bk, qP_ct, oP_rt, oP_nx, oP_ex, loopP_nx, loopP_ct, loopP_bk, loopP_rt, loopP_ex, tgP_ok, wp_try, tryP_nx, tryP_rt, tryP_ct, tryP_bk, offS_rt, offS_nx, br_t, br_f, e_var0, e_varS, e_c, e_bin, a_nil, a_cons, e_fn, e_tup, asB_bl, t_val, asT_bl, t_tru, t_not, t_and, t_or, e_if, e_and, e_or, e_not, e_chain, e_fld, e_con, e_bm, e_star, WL.Q.pe_lst, pe_dict0, pe_dict0K, pe_meth, meth1_ins, con1_ins, s_seq, s_drop, s_ret, s_if, s_next, s_retN, s_asg, s_for, g_nm, g_sub, s_raise, fn_w, out_rt, out_nx, out_ex, set0, setS, lt_ii, le_ii, gt_ii, ge_ii, sub_ii, add_ii, int_i, eq_ii, ne_ii, sub_ref, sub1_lst, sub1_insF, ixSeq0, ixSeq1, ixSeq2, ixSeq3, sub_tup, set_ref, pset_ek, pset_own, startW, List.map_cons, List.map_nil, List.length_cons, List.length_nil, List.replicate_succ, List.replicate_zero, List.cons_append, List.nil_append, Nat.reduceAdd, Nat.reduceSub, Nat.add_sub_cancel, decide_true, decide_false, Bool.not_true, Bool.not_false, List.length_append, List.set_cons_zero, List.set_cons_succ, Nat.reduceLT, Nat.reduceEqDiff, ↓reduceIte, Nat.zero_ne_one, Nat.one_ne_zero, app_ref, papp1, ty_ref, isL_lst, list_ref, plist1, s_fld, ins_ref, ins1_ins, ps_fld1, putW, fldOf, getW, g_tup2, not_non, not_str, nin_in, in_ref, in1_strs, in1_dT, in1_insF, len_ref1, len1_lst, List.length_map, Nat.zero_add, getD, pe_lc, pi_range1, range1_i, WL.Q.pi_seq, itemsR_ref, items1_lst, itemsR_tup, lenO_ref, lenO1_ins, natC_int, pe_is, isB_some, isR_tup, isR_int, isR_str, isR_bl, isR_non, isR_ref, isR1_lst, isR1_ins, WL.Q.pe_prop, prop1_ins, wp_noX, nP_ok, not_bl, is_non, is_str, is_bl, notnon_bl, isnon_bl, notnon_ref, isnon_ref, is_tg, not_tg, eq_bb, ne_bb, xi, dget_some, psub_ek, list_scr, list_tup, bind_ok, bind_ex, fl_ok, fl_ex, sq_nx, sq_rt, sq_ex, sq_bk, sq_ct, s_prop, sprop1_ins, notnon_tup, notnon_int, hH]; (try clear hH))
      refine part_step (names := names) (acts := acts) (count := count) (wide := wide) (rows := rows) R hr1 hr2 hcell hcok hNi hAi hN hnl hA hal hn hj (by rw [List.length_map]; omega) (by omega) (fun a t e => ?_) H (fun e o6 g' H => ?_) fun a t e o6 ln' g' H => ?_
      · subst e
        rw [grown_map nd hnl ordj hn hcok, List.length_map]
        exact Nat.le_trans (ordj.step hn hcok).len hc2
      · subst e
        rw [loopP_nx]
        refine ⟨ln, edges, _, _, rfl, hH.skip hat hpp, hE, by omega, ?_⟩
        rw [ordRow_succ hcell]
        exact H
      · subst e
        rw [loopP_nx]
        rw [grown_map nd hnl ordj hn hcok] at H
        refine ⟨ln', _, _, _, rfl, hH.put nd hnl hn (by rw [hat]; rfl) hpp, hE.put (hA _ (nth_mem (Nat.lt_of_lt_of_le hcok.1 hal))) (tgOf_ok hN hnl hcok), ?_, ?_⟩
        · exact Nat.le_trans putKW_len (by omega)
        · rw [ordRow_succ hcell]
          exact H
    · obtain ⟨ln, edges, o5, o6, rfl, hH, hE, hel, H⟩ := hI
      rw [range_len] at hH hel H
      rw [loopP_nx]
      refine ⟨ln, edges, _, _, _, rfl, ?_, hE, by rw [Nat.add_mul]; omega, ?_⟩
      · intro k i hk
        refine ⟨fun q => ?_, fun q => (hH k i hk).2 fun z => q (by omega)⟩
        by_cases z : k < n ∨ (k = n ∧ i < wide)
        · exact (hH k i hk).1 z
        · rw [(hH k i hk).2 z]
          have : cellAt rows k i = none := by
            have hkn : k = n := by omega
            subst hkn
            unfold cellAt
            rw [hrow]
            dsimp only
            rw [List.getElem?_eq_none (by omega)]
            rfl
          rw [this]
          rfl
      · rw [← hwid, List.take_length] at H
        rw [ordN_succ hrow]
        simpa [hwid] using H
  · obtain ⟨ln, edges, o4, o5, o6, rfl, hH, hE, hel, H⟩ := hI
    rw [range_len] at hH hel H
    ((try simp only [List.set_cons_zero, List.set_cons_succ, List.eraseIdx_cons_zero, List.eraseIdx_cons_succ, List.cons_append, List.nil_append] at H); have hH := H; (try simp only [has_cons, has_nil, dist_cons, dist_nil, ne_eq, and_true, true_and, List.set_cons_zero, List.set_cons_succ] at hH); simp only [wp_bind, wp_fl, wp_sq, wp_out, wpO_ok, wpO_ex, wpF_nx, wpF_rt, wpF_ex, wpF_bk, wpF_ct, bP_ok, bP_ex, lP_ok, lP_ex, qP_nx, qP_rt, qP_ex, qP_bk, qP_ct, oP_rt, oP_nx, oP_ex, loopP_nx, loopP_ct, loopP_bk, loopP_rt, loopP_ex, tgP_ok, wp_try, tryP_nx, tryP_rt, tryP_ct, tryP_bk, offS_rt, offS_nx, br_t, br_f, e_var0, e_varS, e_c, e_bin, a_nil, a_cons, e_fn, e_tup, asB_bl, t_val, asT_bl, t_tru, t_not, t_and, t_or, e_if, e_and, e_or, e_not, e_chain, e_fld, e_con, e_bm, e_star, WL.Q.pe_lst, pe_dict0, pe_dict0K, pe_meth, meth1_ins, con1_ins, s_seq, s_drop, s_ret, s_if, s_next, s_retN, s_asg, s_for, g_nm, g_sub, s_raise, fn_w, out_rt, out_nx, out_ex, set0, setS, lt_ii, le_ii, gt_ii, ge_ii, sub_ii, add_ii, int_i, eq_ii, ne_ii, sub_ref, sub1_lst, sub1_insF, ixSeq0, ixSeq1, ixSeq2, ixSeq3, sub_tup, set_ref, pset_ek, pset_own, startW, List.map_cons, List.map_nil, List.length_cons, List.length_nil, List.replicate_succ, List.replicate_zero, List.cons_append, List.nil_append, Nat.reduceAdd, Nat.reduceSub, Nat.add_sub_cancel, decide_true, decide_false, Bool.not_true, Bool.not_false, List.length_append, List.set_cons_zero, List.set_cons_succ, Nat.reduceLT, Nat.reduceEqDiff, ↓reduceIte, Nat.zero_ne_one, Nat.one_ne_zero, app_ref, papp1, ty_ref, isL_lst, list_ref, plist1, s_fld, ins_ref, ins1_ins, ps_fld1, putW, fldOf, getW, g_tup2, not_non, not_str, nin_in, in_ref, in1_strs, in1_dT, in1_insF, len_ref1, len1_lst, List.length_map, Nat.zero_add, getD, pe_lc, pi_range1, range1_i, WL.Q.pi_seq, itemsR_ref, items1_lst, itemsR_tup, lenO_ref, lenO1_ins, natC_int, pe_is, isB_some, isR_tup, isR_int, isR_str, isR_bl, isR_non, isR_ref, isR1_lst, isR1_ins, WL.Q.pe_prop, prop1_ins, wp_noX, nP_ok, not_bl, is_non, is_str, is_bl, notnon_bl, isnon_bl, notnon_ref, isnon_ref, is_tg, not_tg, eq_bb, ne_bb, xi, dget_some, psub_ek, list_scr, list_tup, bind_ok, bind_ex, fl_ok, fl_ex, sq_nx, sq_rt, sq_ex, sq_bk, sq_ct, s_prop, sprop1_ins, notnon_tup, notnon_int, hH, part_r2]; (try clear hH))
    exact k c ln le edges _ (hH.iff fun k i hk => ⟨fun _ => hk, fun _ => trivial⟩) hE hel H
end Q
end WL
end
section
set_option maxRecDepth 100000
set_option maxHeartbeats 1000000
namespace WL
namespace Q
open PySem PySem.Spec L2
open PyProof.Rows hiding St
open PySem.Builtin.Str
set_option autoImplicit true
theorem cut_take {ws : List W} {p : Nat} : cutW ws none (some (p : Int)) = ws.take p := by
  unfold cutW
  rw [HT.sIx_none, HT.sIx_nat, List.drop_zero, Nat.sub_zero]
  by_cases h : p ≤ ws.length
  · rw [Nat.min_eq_left h]
  · rw [Nat.min_eq_right (by omega), List.take_length, List.take_of_length_le (by omega)]
theorem cut_drop {ws : List W} {p : Nat} : cutW ws (some (p : Int)) none = ws.drop p := by
  unfold cutW
  rw [HT.sIx_none, HT.sIx_nat]
  by_cases h : p ≤ ws.length
  · rw [Nat.min_eq_left h, List.take_of_length_le (by simp)]
  · rw [Nat.min_eq_right (by omega), Nat.sub_self, List.take_zero, List.drop_of_length_le (by omega)]
theorem cut_last {ws : List W} : cutW ws none (some (-1)) = ws.dropLast := by
  unfold cutW
  have e : HT.sIx ws.length ws.length (some (-1)) = ws.length - 1 := by
    unfold HT.sIx
    dsimp only
    rw [if_pos (by decide)]
    omega
  rw [HT.sIx_none, e, List.drop_zero, Nat.sub_zero, List.dropLast_eq_take]
def optI (w : W) (g : G) : Out (Option Int) := match w with
  | .int i => .ok (some i) g
  | _ => .bad
theorem optE_none {σ : Sg} {g : G} : optE none σ g = .ok none g := (rfl)
theorem optE_some {e : ED} {σ : Sg} {g : G} : optE (some e) σ g = (e σ g).bind optI := (rfl)
theorem optI_int {i : Int} {g : G} : optI (.int i) g = .ok (some i) g := (rfl)
theorem pe_slice {a : ED} {lo hi : Option ED} {σ : Sg} {g : G} : eSlice a lo hi σ g = (a σ g).bind fun x g => (optE lo σ g).bind fun l g => (optE hi σ g).bind fun u g => sliceF x l u g := (rfl)
def slice1 (l u : Option Int) (g : G) (o : Option GO) : Out W := match o with
  | some (.lst ws) => alloc (.lst (cutW ws l u)) g
  | _ => .bad
theorem slice_ref {k : Nat} {l u : Option Int} {g : G} : sliceF (.ref k) l u g = slice1 l u g (g[k]?) := by
  simp only [sliceF, listAt]
  cases g[k]? with
  | none => rfl
  | some o => cases o <;> rfl
theorem slice1_lst {ws : List W} {l u : Option Int} {g : G} : slice1 l u g (some (.lst ws)) = alloc (.lst (cutW ws l u)) g := (rfl)
theorem slice_tup {ws : List W} {l u : Option Int} {g : G} : sliceF (.tup ws) l u g = .ok (.tup (cutW ws l u)) g := (rfl)
def add2 (g : G) (o p : Option GO) : Out W := match o with
  | some (.lst a) => match p with
    | some (.lst b) => br (fits a.length && fits b.length) (alloc (.lst (a ++ b)) g) .bad
    | _ => .bad
  | _ => .bad
theorem add_ref {l k : Nat} {g : G} : addF (.ref l) (.ref k) g = add2 g (g[l]?) (g[k]?) := by
  simp only [addF, listAt]
  cases g[l]? with
  | none => cases g[k]? <;> rfl
  | some o =>
    cases o with
    | lst a =>
      cases g[k]? with
      | none => rfl
      | some p =>
        cases p with
        | lst b => rfl
        | _ => rfl
    | _ => cases g[k]? <;> rfl
theorem add2_lst {g : G} {a b : List W} : add2 g (some (.lst a)) (some (.lst b)) = br (fits a.length && fits b.length) (alloc (.lst (a ++ b)) g) .bad := (rfl)
theorem add_str {a b : Str} {g : G} : addF (.str a) (.str b) g = br (fits a.length && fits b.length) (.ok (.str (a ++ b)) g) .bad := (rfl)
theorem fits_and {b : Bool} (h : b = true) : (b && b) = true := by rw [h]; rfl
theorem tt_and : (true && true) = true := (rfl)
theorem add_tup {a b : List W} {g : G} : addF (.tup a) (.tup b) g = br (fits a.length && fits b.length) (.ok (.tup (a ++ b)) g) .bad := (rfl)
theorem RowsIn.set_other {S ir off lr refs rows} (h : RowsIn S ir off lr refs rows) {i : Nat} {x y : Nat × GO} (hi : S[i]? = some x) (hx : ∀ r row, x ≠ (r, rowW row)) (hne : i ≠ ir) : RowsIn (S.set i y) ir off lr refs rows := ⟨by rw [List.getElem?_set_ne hne]; exact h.hr, h.len, fun k r row a b => by
  have e := h.row k r row a b
  rw [List.getElem?_set_ne fun z => by rw [z, e] at hi; exact hx r row (Option.some.inj hi).symm]
  exact e⟩
theorem RowsIn.set_row {S ir off lr refs rows} (h : RowsIn S ir off lr refs rows) {k l : Nat} {row : List Cell} (hk : k < rows.length) (hio : ∀ k, k < rows.length → ir ≠ off + k) : RowsIn ((S.set ir (lr, GO.lst ((refs.set k l).map .ref))).set (off + k) (l, rowW row)) ir off lr (refs.set k l) (rows.set k row) := by
  have hkl : k < refs.length := by rw [h.len]; exact hk
  refine ⟨?_, by simp [h.len], fun j r row' a b => ?_⟩
  · rw [List.getElem?_set_ne (hio k hk).symm]
    exact set_idx h.hr
  · obtain ⟨r0, ha, hb⟩ := h.ref (List.getElem?_eq_getElem hk)
    by_cases e : j = k
    · subst e
      rw [List.getElem?_set_self hkl] at a
      rw [List.getElem?_set_self hk] at b
      cases a; cases b
      have hb2 : (S.set ir (lr, GO.lst ((refs.set j l).map .ref)))[off + j]? = some (r0, rowW rows[j]) := by
        rw [List.getElem?_set_ne (hio j hk)]; exact hb
      exact set_idx hb2
    · rw [List.getElem?_set_ne (fun q => e q.symm)] at a b
      have hj : j < rows.length := (List.getElem?_eq_some_iff.mp b).1
      rw [List.getElem?_set_ne (by omega), List.getElem?_set_ne (hio j hj)]
      exact h.row j r row' a b
/-- rows[k] = rows[k][:p] + [x] + rows[k][p + 1:] -/
theorem sp_rowset {a b c X : ED} {σ : Sg} {g : G} {S : List (Nat × GO)} {ir off lr k p : Nat} {refs : List Nat} {rows : List (List Cell)} {row : List Cell} {cell : Cell} {P : Fl → Prop}
    (ha : ∀ g, a σ g = .ok (.ref lr) g) (hb : ∀ g, b σ g = .ok (.int (k : Nat)) g) (hc : ∀ g, c σ g = .ok (.int (p : Nat)) g) (hX : ∀ g, X σ g = .ok (cellW cell) g)
    (H : Has g S) (R : RowsIn S ir off lr refs rows) (hk : rows[k]? = some row) (hlen : row.length ≤ 1000) (hio : ∀ k, k < rows.length → ir ≠ off + k)
    (kk : ∀ l g', Has g' ((S.set ir (lr, GO.lst ((refs.set k l).map .ref))).set (off + k) (l, rowW (row.take p ++ [cell] ++ row.drop (p + 1)))) → P (.nx σ g')) :
    wpF (sAsg (eBin addF (eBin addF (eSlice (eBin (subW []) a b) none (some c)) (eLst (aCons X aNil))) (eSlice (eBin (subW []) a b) (some (eBin addF c (eC (.int 1)))) none)) (gSubW (setW []) a b) σ g) P := by
  obtain ⟨r, hr1, hr2⟩ := R.ref hk
  have hkl : k < refs.length := (List.getElem?_eq_some_iff.mp hr1).1
  have hrow : ∀ {g : G}, Has g S → g[r]? = some (GO.lst (row.map cellW)) := fun h => h.get hr2
  have f1 : fits ((row.map cellW).take p).length = true := fits_of (by simp; omega)
  have e1 : (p : Int) + 1 = ((p + 1 : Nat) : Int) := by omega
  ((try simp only [List.set_cons_zero, List.set_cons_succ, List.eraseIdx_cons_zero, List.eraseIdx_cons_succ, List.cons_append, List.nil_append] at H); have hH := H; (try simp only [has_cons, has_nil, dist_cons, dist_nil, ne_eq, and_true, true_and, List.set_cons_zero, List.set_cons_succ] at hH); simp only [wp_bind, wp_fl, wp_sq, wp_out, wpO_ok, wpO_ex, wpF_nx, wpF_rt, wpF_ex, wpF_bk, wpF_ct, bP_ok, bP_ex, lP_ok, lP_ex, qP_nx, qP_rt, qP_ex, qP_bk, qP_ct, oP_rt, oP_nx, oP_ex, loopP_nx, loopP_ct, loopP_bk, loopP_rt, loopP_ex, tgP_ok, wp_try, tryP_nx, tryP_rt, tryP_ct, tryP_bk, offS_rt, offS_nx, br_t, br_f, e_var0, e_varS, e_c, e_bin, a_nil, a_cons, e_fn, e_tup, asB_bl, t_val, asT_bl, t_tru, t_not, t_and, t_or, e_if, e_and, e_or, e_not, e_chain, e_fld, e_con, e_bm, e_star, WL.Q.pe_lst, pe_dict0, pe_dict0K, pe_meth, meth1_ins, con1_ins, s_seq, s_drop, s_ret, s_if, s_next, s_retN, s_asg, s_for, g_nm, g_sub, s_raise, fn_w, out_rt, out_nx, out_ex, set0, setS, lt_ii, le_ii, gt_ii, ge_ii, sub_ii, add_ii, int_i, eq_ii, ne_ii, sub_ref, sub1_lst, sub1_insF, ixSeq0, ixSeq1, ixSeq2, ixSeq3, sub_tup, set_ref, pset_ek, pset_own, startW, List.map_cons, List.map_nil, List.length_cons, List.length_nil, List.replicate_succ, List.replicate_zero, List.cons_append, List.nil_append, Nat.reduceAdd, Nat.reduceSub, Nat.add_sub_cancel, decide_true, decide_false, Bool.not_true, Bool.not_false, List.length_append, List.set_cons_zero, List.set_cons_succ, Nat.reduceLT, Nat.reduceEqDiff, ↓reduceIte, Nat.zero_ne_one, Nat.one_ne_zero, app_ref, papp1, ty_ref, isL_lst, list_ref, plist1, s_fld, ins_ref, ins1_ins, ps_fld1, putW, fldOf, getW, g_tup2, not_non, not_str, nin_in, in_ref, in1_strs, in1_dT, in1_insF, len_ref1, len1_lst, List.length_map, Nat.zero_add, getD, pe_lc, pi_range1, range1_i, WL.Q.pi_seq, itemsR_ref, items1_lst, itemsR_tup, lenO_ref, lenO1_ins, natC_int, pe_is, isB_some, isR_tup, isR_int, isR_str, isR_bl, isR_non, isR_ref, isR1_lst, isR1_ins, WL.Q.pe_prop, prop1_ins, wp_noX, nP_ok, not_bl, is_non, is_str, is_bl, notnon_bl, isnon_bl, notnon_ref, isnon_ref, is_tg, not_tg, eq_bb, ne_bb, xi, dget_some, psub_ek, list_scr, list_tup, bind_ok, bind_ex, fl_ok, fl_ex, sq_nx, sq_rt, sq_ex, sq_bk, sq_ct, s_prop, sprop1_ins, notnon_tup, notnon_int, hH, ha, hb, hc, hX, pe_slice, optE_none, optE_some, optI_int, H.get R.hr, ix_refs hr1, hrow H, slice_ref, slice1_lst, cut_take]; (try clear hH))
  refine wp_alloc H fun l1 g H => ?_
  ((try simp only [List.set_cons_zero, List.set_cons_succ, List.eraseIdx_cons_zero, List.eraseIdx_cons_succ, List.cons_append, List.nil_append] at H); have hH := H; (try simp only [has_cons, has_nil, dist_cons, dist_nil, ne_eq, and_true, true_and, List.set_cons_zero, List.set_cons_succ] at hH); simp only [wp_bind, wp_fl, wp_sq, wp_out, wpO_ok, wpO_ex, wpF_nx, wpF_rt, wpF_ex, wpF_bk, wpF_ct, bP_ok, bP_ex, lP_ok, lP_ex, qP_nx, qP_rt, qP_ex, qP_bk, qP_ct, oP_rt, oP_nx, oP_ex, loopP_nx, loopP_ct, loopP_bk, loopP_rt, loopP_ex, tgP_ok, wp_try, tryP_nx, tryP_rt, tryP_ct, tryP_bk, offS_rt, offS_nx, br_t, br_f, e_var0, e_varS, e_c, e_bin, a_nil, a_cons, e_fn, e_tup, asB_bl, t_val, asT_bl, t_tru, t_not, t_and, t_or, e_if, e_and, e_or, e_not, e_chain, e_fld, e_con, e_bm, e_star, WL.Q.pe_lst, pe_dict0, pe_dict0K, pe_meth, meth1_ins, con1_ins, s_seq, s_drop, s_ret, s_if, s_next, s_retN, s_asg, s_for, g_nm, g_sub, s_raise, fn_w, out_rt, out_nx, out_ex, set0, setS, lt_ii, le_ii, gt_ii, ge_ii, sub_ii, add_ii, int_i, eq_ii, ne_ii, sub_ref, sub1_lst, sub1_insF, ixSeq0, ixSeq1, ixSeq2, ixSeq3, sub_tup, set_ref, pset_ek, pset_own, startW, List.map_cons, List.map_nil, List.length_cons, List.length_nil, List.replicate_succ, List.replicate_zero, List.cons_append, List.nil_append, Nat.reduceAdd, Nat.reduceSub, Nat.add_sub_cancel, decide_true, decide_false, Bool.not_true, Bool.not_false, List.length_append, List.set_cons_zero, List.set_cons_succ, Nat.reduceLT, Nat.reduceEqDiff, ↓reduceIte, Nat.zero_ne_one, Nat.one_ne_zero, app_ref, papp1, ty_ref, isL_lst, list_ref, plist1, s_fld, ins_ref, ins1_ins, ps_fld1, putW, fldOf, getW, g_tup2, not_non, not_str, nin_in, in_ref, in1_strs, in1_dT, in1_insF, len_ref1, len1_lst, List.length_map, Nat.zero_add, getD, pe_lc, pi_range1, range1_i, WL.Q.pi_seq, itemsR_ref, items1_lst, itemsR_tup, lenO_ref, lenO1_ins, natC_int, pe_is, isB_some, isR_tup, isR_int, isR_str, isR_bl, isR_non, isR_ref, isR1_lst, isR1_ins, WL.Q.pe_prop, prop1_ins, wp_noX, nP_ok, not_bl, is_non, is_str, is_bl, notnon_bl, isnon_bl, notnon_ref, isnon_ref, is_tg, not_tg, eq_bb, ne_bb, xi, dget_some, psub_ek, list_scr, list_tup, bind_ok, bind_ex, fl_ok, fl_ex, sq_nx, sq_rt, sq_ex, sq_bk, sq_ct, s_prop, sprop1_ins, notnon_tup, notnon_int, hH, hX, fits1]; (try clear hH))
  refine wp_alloc H fun l2 g H => ?_
  ((try simp only [List.set_cons_zero, List.set_cons_succ, List.eraseIdx_cons_zero, List.eraseIdx_cons_succ, List.cons_append, List.nil_append] at H); have hH := H; (try simp only [has_cons, has_nil, dist_cons, dist_nil, ne_eq, and_true, true_and, List.set_cons_zero, List.set_cons_succ] at hH); simp only [wp_bind, wp_fl, wp_sq, wp_out, wpO_ok, wpO_ex, wpF_nx, wpF_rt, wpF_ex, wpF_bk, wpF_ct, bP_ok, bP_ex, lP_ok, lP_ex, qP_nx, qP_rt, qP_ex, qP_bk, qP_ct, oP_rt, oP_nx, oP_ex, loopP_nx, loopP_ct, loopP_bk, loopP_rt, loopP_ex, tgP_ok, wp_try, tryP_nx, tryP_rt, tryP_ct, tryP_bk, offS_rt, offS_nx, br_t, br_f, e_var0, e_varS, e_c, e_bin, a_nil, a_cons, e_fn, e_tup, asB_bl, t_val, asT_bl, t_tru, t_not, t_and, t_or, e_if, e_and, e_or, e_not, e_chain, e_fld, e_con, e_bm, e_star, WL.Q.pe_lst, pe_dict0, pe_dict0K, pe_meth, meth1_ins, con1_ins, s_seq, s_drop, s_ret, s_if, s_next, s_retN, s_asg, s_for, g_nm, g_sub, s_raise, fn_w, out_rt, out_nx, out_ex, set0, setS, lt_ii, le_ii, gt_ii, ge_ii, sub_ii, add_ii, int_i, eq_ii, ne_ii, sub_ref, sub1_lst, sub1_insF, ixSeq0, ixSeq1, ixSeq2, ixSeq3, sub_tup, set_ref, pset_ek, pset_own, startW, List.map_cons, List.map_nil, List.length_cons, List.length_nil, List.replicate_succ, List.replicate_zero, List.cons_append, List.nil_append, Nat.reduceAdd, Nat.reduceSub, Nat.add_sub_cancel, decide_true, decide_false, Bool.not_true, Bool.not_false, List.length_append, List.set_cons_zero, List.set_cons_succ, Nat.reduceLT, Nat.reduceEqDiff, ↓reduceIte, Nat.zero_ne_one, Nat.one_ne_zero, app_ref, papp1, ty_ref, isL_lst, list_ref, plist1, s_fld, ins_ref, ins1_ins, ps_fld1, putW, fldOf, getW, g_tup2, not_non, not_str, nin_in, in_ref, in1_strs, in1_dT, in1_insF, len_ref1, len1_lst, List.length_map, Nat.zero_add, getD, pe_lc, pi_range1, range1_i, WL.Q.pi_seq, itemsR_ref, items1_lst, itemsR_tup, lenO_ref, lenO1_ins, natC_int, pe_is, isB_some, isR_tup, isR_int, isR_str, isR_bl, isR_non, isR_ref, isR1_lst, isR1_ins, WL.Q.pe_prop, prop1_ins, wp_noX, nP_ok, not_bl, is_non, is_str, is_bl, notnon_bl, isnon_bl, notnon_ref, isnon_ref, is_tg, not_tg, eq_bb, ne_bb, xi, dget_some, psub_ek, list_scr, list_tup, bind_ok, bind_ex, fl_ok, fl_ex, sq_nx, sq_rt, sq_ex, sq_bk, sq_ct, s_prop, sprop1_ins, notnon_tup, notnon_int, hH, add_ref, add2_lst, f1, fits1, tt_and]; (try clear hH))
  refine wp_alloc H fun l3 g H => ?_
  have F : Has g S := H.2.2.2.2.2.2
  ((try simp only [List.set_cons_zero, List.set_cons_succ, List.eraseIdx_cons_zero, List.eraseIdx_cons_succ, List.cons_append, List.nil_append] at H); have hH := H; (try simp only [has_cons, has_nil, dist_cons, dist_nil, ne_eq, and_true, true_and, List.set_cons_zero, List.set_cons_succ] at hH); simp only [wp_bind, wp_fl, wp_sq, wp_out, wpO_ok, wpO_ex, wpF_nx, wpF_rt, wpF_ex, wpF_bk, wpF_ct, bP_ok, bP_ex, lP_ok, lP_ex, qP_nx, qP_rt, qP_ex, qP_bk, qP_ct, oP_rt, oP_nx, oP_ex, loopP_nx, loopP_ct, loopP_bk, loopP_rt, loopP_ex, tgP_ok, wp_try, tryP_nx, tryP_rt, tryP_ct, tryP_bk, offS_rt, offS_nx, br_t, br_f, e_var0, e_varS, e_c, e_bin, a_nil, a_cons, e_fn, e_tup, asB_bl, t_val, asT_bl, t_tru, t_not, t_and, t_or, e_if, e_and, e_or, e_not, e_chain, e_fld, e_con, e_bm, e_star, WL.Q.pe_lst, pe_dict0, pe_dict0K, pe_meth, meth1_ins, con1_ins, s_seq, s_drop, s_ret, s_if, s_next, s_retN, s_asg, s_for, g_nm, g_sub, s_raise, fn_w, out_rt, out_nx, out_ex, set0, setS, lt_ii, le_ii, gt_ii, ge_ii, sub_ii, add_ii, int_i, eq_ii, ne_ii, sub_ref, sub1_lst, sub1_insF, ixSeq0, ixSeq1, ixSeq2, ixSeq3, sub_tup, set_ref, pset_ek, pset_own, startW, List.map_cons, List.map_nil, List.length_cons, List.length_nil, List.replicate_succ, List.replicate_zero, List.cons_append, List.nil_append, Nat.reduceAdd, Nat.reduceSub, Nat.add_sub_cancel, decide_true, decide_false, Bool.not_true, Bool.not_false, List.length_append, List.set_cons_zero, List.set_cons_succ, Nat.reduceLT, Nat.reduceEqDiff, ↓reduceIte, Nat.zero_ne_one, Nat.one_ne_zero, app_ref, papp1, ty_ref, isL_lst, list_ref, plist1, s_fld, ins_ref, ins1_ins, ps_fld1, putW, fldOf, getW, g_tup2, not_non, not_str, nin_in, in_ref, in1_strs, in1_dT, in1_insF, len_ref1, len1_lst, List.length_map, Nat.zero_add, getD, pe_lc, pi_range1, range1_i, WL.Q.pi_seq, itemsR_ref, items1_lst, itemsR_tup, lenO_ref, lenO1_ins, natC_int, pe_is, isB_some, isR_tup, isR_int, isR_str, isR_bl, isR_non, isR_ref, isR1_lst, isR1_ins, WL.Q.pe_prop, prop1_ins, wp_noX, nP_ok, not_bl, is_non, is_str, is_bl, notnon_bl, isnon_bl, notnon_ref, isnon_ref, is_tg, not_tg, eq_bb, ne_bb, xi, dget_some, psub_ek, list_scr, list_tup, bind_ok, bind_ex, fl_ok, fl_ex, sq_nx, sq_rt, sq_ex, sq_bk, sq_ct, s_prop, sprop1_ins, notnon_tup, notnon_int, hH, ha, hb, hc, F.get R.hr, ix_refs hr1, hrow F, slice_ref, slice1_lst, pe_slice, optE_none, optE_some, optI_int, e1, cut_drop]; (try clear hH))
  refine wp_alloc H fun l4 g H => ?_
  have f2 : fits ((row.map cellW).take p ++ [cellW cell]).length = true := fits_of (by simp; omega)
  have f3 : fits ((row.map cellW).drop (p + 1)).length = true := fits_of (by simp; omega)
  simp only [List.length_append, List.length_cons, List.length_nil] at f2
  ((try simp only [List.set_cons_zero, List.set_cons_succ, List.eraseIdx_cons_zero, List.eraseIdx_cons_succ, List.cons_append, List.nil_append] at H); have hH := H; (try simp only [has_cons, has_nil, dist_cons, dist_nil, ne_eq, and_true, true_and, List.set_cons_zero, List.set_cons_succ] at hH); simp only [wp_bind, wp_fl, wp_sq, wp_out, wpO_ok, wpO_ex, wpF_nx, wpF_rt, wpF_ex, wpF_bk, wpF_ct, bP_ok, bP_ex, lP_ok, lP_ex, qP_nx, qP_rt, qP_ex, qP_bk, qP_ct, oP_rt, oP_nx, oP_ex, loopP_nx, loopP_ct, loopP_bk, loopP_rt, loopP_ex, tgP_ok, wp_try, tryP_nx, tryP_rt, tryP_ct, tryP_bk, offS_rt, offS_nx, br_t, br_f, e_var0, e_varS, e_c, e_bin, a_nil, a_cons, e_fn, e_tup, asB_bl, t_val, asT_bl, t_tru, t_not, t_and, t_or, e_if, e_and, e_or, e_not, e_chain, e_fld, e_con, e_bm, e_star, WL.Q.pe_lst, pe_dict0, pe_dict0K, pe_meth, meth1_ins, con1_ins, s_seq, s_drop, s_ret, s_if, s_next, s_retN, s_asg, s_for, g_nm, g_sub, s_raise, fn_w, out_rt, out_nx, out_ex, set0, setS, lt_ii, le_ii, gt_ii, ge_ii, sub_ii, add_ii, int_i, eq_ii, ne_ii, sub_ref, sub1_lst, sub1_insF, ixSeq0, ixSeq1, ixSeq2, ixSeq3, sub_tup, set_ref, pset_ek, pset_own, startW, List.map_cons, List.map_nil, List.length_cons, List.length_nil, List.replicate_succ, List.replicate_zero, List.cons_append, List.nil_append, Nat.reduceAdd, Nat.reduceSub, Nat.add_sub_cancel, decide_true, decide_false, Bool.not_true, Bool.not_false, List.length_append, List.set_cons_zero, List.set_cons_succ, Nat.reduceLT, Nat.reduceEqDiff, ↓reduceIte, Nat.zero_ne_one, Nat.one_ne_zero, app_ref, papp1, ty_ref, isL_lst, list_ref, plist1, s_fld, ins_ref, ins1_ins, ps_fld1, putW, fldOf, getW, g_tup2, not_non, not_str, nin_in, in_ref, in1_strs, in1_dT, in1_insF, len_ref1, len1_lst, List.length_map, Nat.zero_add, getD, pe_lc, pi_range1, range1_i, WL.Q.pi_seq, itemsR_ref, items1_lst, itemsR_tup, lenO_ref, lenO1_ins, natC_int, pe_is, isB_some, isR_tup, isR_int, isR_str, isR_bl, isR_non, isR_ref, isR1_lst, isR1_ins, WL.Q.pe_prop, prop1_ins, wp_noX, nP_ok, not_bl, is_non, is_str, is_bl, notnon_bl, isnon_bl, notnon_ref, isnon_ref, is_tg, not_tg, eq_bb, ne_bb, xi, dget_some, psub_ek, list_scr, list_tup, bind_ok, bind_ex, fl_ok, fl_ex, sq_nx, sq_rt, sq_ex, sq_bk, sq_ct, s_prop, sprop1_ins, notnon_tup, notnon_int, hH, add_ref, add2_lst, f2, f3, tt_and]; (try clear hH))
  refine wp_alloc H fun l5 g H => ?_
  have F : Has g S := H.2.2.2.2.2.2.2.2.2.2
  ((try simp only [List.set_cons_zero, List.set_cons_succ, List.eraseIdx_cons_zero, List.eraseIdx_cons_succ, List.cons_append, List.nil_append] at H); have hH := H; (try simp only [has_cons, has_nil, dist_cons, dist_nil, ne_eq, and_true, true_and, List.set_cons_zero, List.set_cons_succ] at hH); simp only [wp_bind, wp_fl, wp_sq, wp_out, wpO_ok, wpO_ex, wpF_nx, wpF_rt, wpF_ex, wpF_bk, wpF_ct, bP_ok, bP_ex, lP_ok, lP_ex, qP_nx, qP_rt, qP_ex, qP_bk, qP_ct, oP_rt, oP_nx, oP_ex, loopP_nx, loopP_ct, loopP_bk, loopP_rt, loopP_ex, tgP_ok, wp_try, tryP_nx, tryP_rt, tryP_ct, tryP_bk, offS_rt, offS_nx, br_t, br_f, e_var0, e_varS, e_c, e_bin, a_nil, a_cons, e_fn, e_tup, asB_bl, t_val, asT_bl, t_tru, t_not, t_and, t_or, e_if, e_and, e_or, e_not, e_chain, e_fld, e_con, e_bm, e_star, WL.Q.pe_lst, pe_dict0, pe_dict0K, pe_meth, meth1_ins, con1_ins, s_seq, s_drop, s_ret, s_if, s_next, s_retN, s_asg, s_for, g_nm, g_sub, s_raise, fn_w, out_rt, out_nx, out_ex, set0, setS, lt_ii, le_ii, gt_ii, ge_ii, sub_ii, add_ii, int_i, eq_ii, ne_ii, sub_ref, sub1_lst, sub1_insF, ixSeq0, ixSeq1, ixSeq2, ixSeq3, sub_tup, set_ref, pset_ek, pset_own, startW, List.map_cons, List.map_nil, List.length_cons, List.length_nil, List.replicate_succ, List.replicate_zero, List.cons_append, List.nil_append, Nat.reduceAdd, Nat.reduceSub, Nat.add_sub_cancel, decide_true, decide_false, Bool.not_true, Bool.not_false, List.length_append, List.set_cons_zero, List.set_cons_succ, Nat.reduceLT, Nat.reduceEqDiff, ↓reduceIte, Nat.zero_ne_one, Nat.one_ne_zero, app_ref, papp1, ty_ref, isL_lst, list_ref, plist1, s_fld, ins_ref, ins1_ins, ps_fld1, putW, fldOf, getW, g_tup2, not_non, not_str, nin_in, in_ref, in1_strs, in1_dT, in1_insF, len_ref1, len1_lst, List.length_map, Nat.zero_add, getD, pe_lc, pi_range1, range1_i, WL.Q.pi_seq, itemsR_ref, items1_lst, itemsR_tup, lenO_ref, lenO1_ins, natC_int, pe_is, isB_some, isR_tup, isR_int, isR_str, isR_bl, isR_non, isR_ref, isR1_lst, isR1_ins, WL.Q.pe_prop, prop1_ins, wp_noX, nP_ok, not_bl, is_non, is_str, is_bl, notnon_bl, isnon_bl, notnon_ref, isnon_ref, is_tg, not_tg, eq_bb, ne_bb, xi, dget_some, psub_ek, list_scr, list_tup, bind_ok, bind_ex, fl_ok, fl_ex, sq_nx, sq_rt, sq_ex, sq_bk, sq_ct, s_prop, sprop1_ins, notnon_tup, notnon_int, hH, ha, hb, F.get R.hr, pset1 (show k < (refs.map W.ref).length by rw [List.length_map]; exact hkl)]; (try clear hH))
  refine wp_upd (S := _) H (ir + 5) R.hr fun g H => ?_
  ((try simp only [List.set_cons_zero, List.set_cons_succ, List.eraseIdx_cons_zero, List.eraseIdx_cons_succ, List.cons_append, List.nil_append] at H); have hH := H; (try simp only [has_cons, has_nil, dist_cons, dist_nil, ne_eq, and_true, true_and, List.set_cons_zero, List.set_cons_succ] at hH); simp only [wp_bind, wp_fl, wp_sq, wp_out, wpO_ok, wpO_ex, wpF_nx, wpF_rt, wpF_ex, wpF_bk, wpF_ct, bP_ok, bP_ex, lP_ok, lP_ex, qP_nx, qP_rt, qP_ex, qP_bk, qP_ct, oP_rt, oP_nx, oP_ex, loopP_nx, loopP_ct, loopP_bk, loopP_rt, loopP_ex, tgP_ok, wp_try, tryP_nx, tryP_rt, tryP_ct, tryP_bk, offS_rt, offS_nx, br_t, br_f, e_var0, e_varS, e_c, e_bin, a_nil, a_cons, e_fn, e_tup, asB_bl, t_val, asT_bl, t_tru, t_not, t_and, t_or, e_if, e_and, e_or, e_not, e_chain, e_fld, e_con, e_bm, e_star, WL.Q.pe_lst, pe_dict0, pe_dict0K, pe_meth, meth1_ins, con1_ins, s_seq, s_drop, s_ret, s_if, s_next, s_retN, s_asg, s_for, g_nm, g_sub, s_raise, fn_w, out_rt, out_nx, out_ex, set0, setS, lt_ii, le_ii, gt_ii, ge_ii, sub_ii, add_ii, int_i, eq_ii, ne_ii, sub_ref, sub1_lst, sub1_insF, ixSeq0, ixSeq1, ixSeq2, ixSeq3, sub_tup, set_ref, pset_ek, pset_own, startW, List.map_cons, List.map_nil, List.length_cons, List.length_nil, List.replicate_succ, List.replicate_zero, List.cons_append, List.nil_append, Nat.reduceAdd, Nat.reduceSub, Nat.add_sub_cancel, decide_true, decide_false, Bool.not_true, Bool.not_false, List.length_append, List.set_cons_zero, List.set_cons_succ, Nat.reduceLT, Nat.reduceEqDiff, ↓reduceIte, Nat.zero_ne_one, Nat.one_ne_zero, app_ref, papp1, ty_ref, isL_lst, list_ref, plist1, s_fld, ins_ref, ins1_ins, ps_fld1, putW, fldOf, getW, g_tup2, not_non, not_str, nin_in, in_ref, in1_strs, in1_dT, in1_insF, len_ref1, len1_lst, List.length_map, Nat.zero_add, getD, pe_lc, pi_range1, range1_i, WL.Q.pi_seq, itemsR_ref, items1_lst, itemsR_tup, lenO_ref, lenO1_ins, natC_int, pe_is, isB_some, isR_tup, isR_int, isR_str, isR_bl, isR_non, isR_ref, isR1_lst, isR1_ins, WL.Q.pe_prop, prop1_ins, wp_noX, nP_ok, not_bl, is_non, is_str, is_bl, notnon_bl, isnon_bl, notnon_ref, isnon_ref, is_tg, not_tg, eq_bb, ne_bb, xi, dget_some, psub_ek, list_scr, list_tup, bind_ok, bind_ex, fl_ok, fl_ex, sq_nx, sq_rt, sq_ex, sq_bk, sq_ct, s_prop, sprop1_ins, notnon_tup, notnon_int, hH]; (try clear hH))
  refine kk l5 g ?_
  have H2 : Has g ((l5, rowW (row.take p ++ [cell] ++ row.drop (p + 1))) :: S.set ir (lr, GO.lst ((refs.set k l5).map .ref))) := by
    have H3 := ((((H.erase 1).erase 1).erase 1).erase 1)
    have em : (refs.map W.ref).set k (.ref l5) = (refs.set k l5).map W.ref := by rw [List.map_set]
    simp only [List.set_cons_succ, List.eraseIdx_cons_succ, List.eraseIdx_cons_zero, em] at H3
    simpa [rowW, List.map_take, List.map_drop] using H3
  exact H2.repl (off + k)
end Q
end WL
end
section
set_option maxRecDepth 100000
set_option maxHeartbeats 1000000
namespace WL
namespace Q
open PySem PySem.Spec L2
open PyProof.Rows hiding St
open PySem.Builtin.Str
set_option autoImplicit true
def anyR (tab : List (Nat × Nat)) (g : G) (x : W) : Out Items := match ownList tab g x with
  | some (k, ws) => .ok ⟨ws, some k⟩ g
  | none => itemsR g x
theorem pi_any {tab : List (Nat × Nat)} {a : ED} {σ : Sg} {g : G} : iAny tab a σ g = (a σ g).bind fun x g => anyR tab g x := (rfl)
theorem any_chart {g : G} {S : List (Nat × GO)} {ic il ie c ln le : Nat} {wide : Int} {start : Str} {nodes : List Str} {edges : List (List Key × W)} (H : Has g S) (C : Ch S ic il ie c ln le wide start nodes edges) : anyR [(0, 2)] g (.ref c) = .ok ⟨nodes.map W.str, some ln⟩ g := by
  have A := C.at H
  have ho : ownList [(0, 2)] g (.ref c) = some (ln, nodes.map W.str) := by
    simp [ownList, insAt, A.ins, getN, getW, A.nodes]
  unfold anyR
  rw [ho]
theorem g_tup4 {a b c d : GD} {x y z u : W} {σ : Sg} {g : G} : gTupW 4 (gsCons a (gsCons b (gsCons c (gsCons d gsNil)))) (.tup [x, y, z, u]) σ g = (match a x σ g with
  | .ok σ g => match b y σ g with
    | .ok σ g => match c z σ g with
      | .ok σ g => match d u σ g with
        | .ok σ g => .ok σ g
        | _ => .bad
      | _ => .bad
    | _ => .bad
  | _ => .bad) := by
  simp only [gTupW, List.length_cons, List.length_nil, if_true, gsCons, gsNil]
  cases a x σ g with
  | ok σ1 g1 =>
    dsimp only
    cases b y σ1 g1 with
    | ok σ2 g2 =>
      dsimp only
      cases c z σ2 g2 with
      | ok σ3 g3 =>
        dsimp only
        cases d u σ3 g3 <;> rfl
      | _ => rfl
    | _ => rfl
  | _ => rfl
theorem index_at {g : G} {l k : Nat} {names : List Str} (h : g[l]? = some (GO.lst (names.map W.str))) (nd : names.Nodup) (hk : k < names.length) : indexM (.ref l) [.str (nth names k)] g = Out.ok (.int k) g := by
  have hf : (names.map W.str).findIdx? (fun z => eqV (toV z) (toV (.str (nth names k)))) = some k := by
    rw [List.findIdx?_eq_some_iff_getElem]
    have hn := nth_get hk
    obtain ⟨h1, h2⟩ := List.getElem?_eq_some_iff.mp hn
    refine ⟨by simpa using hk, ?_, fun j hj => ?_⟩
    · rw [List.getElem_map, h2]
      show ((nth names k == nth names k) : Bool) = true
      simp
    · rw [List.getElem_map]
      show ¬ ((names[j] == nth names k) : Bool) = true
      rw [beq_iff_eq, ← h2]
      exact fun e => absurd ((List.getElem_inj nd).mp e) (by omega)
  unfold indexM
  dsimp only
  simp only [listAt, h, flat_strs, flatW, Bool.and_true, if_true]
  rw [hf]
theorem str_len_app {a b : Str} : (a ++ b).length = a.length + b.length := by
  show (a.cps ++ b.cps).size = a.cps.size + b.cps.size
  rw [Array.size_append]
theorem empty_app {a : Str} : Str.empty ++ a = a := by
  show (⟨#[] ++ a.cps⟩ : Str) = a
  simp
theorem ljust8_len {s : Str} (h : Nm s) : (Txt.ljust s 8).length = 8 := by
  have h8 : s.length ≤ 8 := h.len8
  unfold Txt.ljust
  split
  · omega
  · simp only [padded, Str.length, Array.size_append, Array.size_replicate]
    have : s.cps.size = s.length := rfl
    omega
theorem rjust2_len {k : Nat} (h : k < 4) : (Txt.rjust (toString ((k : Nat) : Int)) 2).length = 2 := by
  rw [rj ⟨k, h⟩]
  rfl
def jd1 (ms : List ED) (acc : Str) (σ : Sg) (w : W) (g : G) : Out Str := match w with
  | .str y => if fits (acc ++ y).length then jd ms (acc ++ y) σ g else .bad
  | _ => .bad
/-- each part has its text, the heap stays -/
inductive JV (σ : Sg) (g : G) : List ED → List Str → Prop where
  | nil : JV σ g [] []
  | cons {m : ED} {y : Str} {ms : List ED} {ys : List Str} (h : m σ g = .ok (.str y) g) (r : JV σ g ms ys) : JV σ g (m :: ms) (y :: ys)
theorem JV.run {σ : Sg} {g : G} : ∀ {ms : List ED} {ys : List Str} (acc : Str), JV σ g ms ys → acc.length + (ys.map Str.length).sum ≤ 1000000 → jd ms acc σ g = .ok (ys.foldl (· ++ ·) acc) g
  | [], _, acc, .nil, _ => rfl
  | m :: ms, y :: ys, acc, .cons h r, hl => by
    have hl2 : acc.length + (y.length + (ys.map Str.length).sum) ≤ 1000000 := by simpa using hl
    unfold jd
    rw [h, bind_ok]
    dsimp only
    rw [if_pos (fits_of (by rw [str_len_app]; omega))]
    exact JV.run _ r (by rw [str_len_app]; omega)
theorem join_at {σ : Sg} {g : G} {ms : List ED} {ys : List Str} (h : JV σ g ms ys) (hl : (ys.map Str.length).sum ≤ 1000000) : eJoin ms σ g = .ok (.str (ys.foldl (· ++ ·) Str.empty)) g := by
  unfold eJoin
  rw [JV.run Str.empty h (by show 0 + _ ≤ _; omega), bind_ok]
def fmtR (o : Option Str) (g : G) : Out W := match o with
  | some y => .ok (.str y) g
  | none => .bad
theorem pe_fmt {f : W → Option Str} {a : ED} {σ : Sg} {g : G} : fmtE f a σ g = (a σ g).bind fun x g => fmtR (f x) g := by
  unfold fmtE fmtR
  rfl
theorem fmtR_some {y : Str} {g : G} : fmtR (some y) g = .ok (.str y) g := (rfl)
theorem fmtS8_nm {s : Str} (h : Nm s) : fmtS8 (.str s) = some (Txt.ljust s 8) := if_pos (Nat.le_trans h.len8 (by decide))
theorem fmtI2_nat {k : Nat} (h : k < 4) : fmtI2 (.int (k : Nat)) = some (Txt.rjust (toString ((k : Nat) : Int)) 2) := if_pos ⟨by omega, by omega⟩
theorem fmtS_str {s : Str} (h : s.length ≤ 1000) : fmtS (.str s) = some s := if_pos (fits_of (by omega))
def orR (o : Option Bool) (x y : Out W) : Out W := match o with
  | some true => x
  | some false => y
  | none => .bad
theorem pe_orT {a b : ED} {σ : Sg} {g : G} : eOrT a b σ g = (a σ g).bind fun x g => orR (truW g x) (.ok x g) (b σ g) := by
  unfold eOrT orR
  rfl
theorem orR_t {x y : Out W} : orR (some true) x y = x := (rfl)
theorem orR_f {x y : Out W} : orR (some false) x y = y := (rfl)
theorem tru_nm {s : Str} {g : G} (h : Nm s) : truW g (.str s) = some true := by
  have h1 : 1 ≤ s.length := h.len1
  unfold truW
  dsimp only
  rw [if_pos (fits_of (word_len h))]
  congr 1
  simp
  omega
theorem tru_non {g : G} : truW g .non = some false := (rfl)
theorem justM_at {s : Str} {n : Nat} {f : Str → Int → Str} {g : G} (h : n ≤ 1000) : justM f (.str s) [.int n] g = .ok (.str (f s n)) g := by
  unfold justM
  dsimp only
  rw [if_pos (pad_nat h)]
theorem just8 {s : Str} {f : Str → Int → Str} {g : G} : justM f (.str s) [.int 8] g = .ok (.str (f s 8)) g := justM_at (n := 8) (by decide)
theorem just2 {s : Str} {f : Str → Int → Str} {g : G} : justM f (.str s) [.int 2] g = .ok (.str (f s 2)) g := justM_at (n := 2) (by decide)
theorem str_nat {k : Nat} {g : G} (h : k ≤ 1000) : strF [.int (k : Nat)] g = .ok (.str (toString ((k : Nat) : Int))) g := by
  unfold strF
  dsimp only
  rw [if_pos (by have : (2 : Nat) ^ 64 = 18446744073709551616 := by decide
                 omega)]
end Q
end WL
end
section
set_option maxRecDepth 100000
set_option maxHeartbeats 1000000
namespace WL
namespace Q
open PySem PySem.Spec L2
open PyProof.Rows hiding St
open PySem.Builtin.Str
set_option autoImplicit true
def rowsetS (a b c X : ED) : SD := sAsg (eBin addF (eBin addF (eSlice (eBin (subW []) a b) none (some c)) (eLst (aCons X aNil))) (eSlice (eBin (subW []) a b) (some (eBin addF c (eC (.int 1)))) none)) (gSubW (setW []) a b)
theorem rowsetS_def {a b c X : ED} : rowsetS a b c X = sAsg (eBin addF (eBin addF (eSlice (eBin (subW []) a b) none (some c)) (eLst (aCons X aNil))) (eSlice (eBin (subW []) a b) (some (eBin addF c (eC (.int 1)))) none)) (gSubW (setW []) a b) := rfl
/-- the row with one cell changed -/
def rowPut (rows : List (List Cell)) (k p : Nat) (cell : Cell) : List (List Cell) := rows.set k ((rows.getD k []).take p ++ [cell] ++ (rows.getD k []).drop (p + 1))
theorem take_drop_set {α : Type} {l : List α} {p : Nat} {x : α} (h : p < l.length) : l.take p ++ [x] ++ l.drop (p + 1) = l.set p x := by
  rw [List.set_eq_take_append_cons_drop, if_pos h, List.append_assoc]
  rfl
theorem rowPut_eq {rows : List (List Cell)} {k p : Nat} {cell : Cell} {row : List Cell} (hk : rows[k]? = some row) (hp : p < row.length) : rowPut rows k p cell = rows.set k (row.set p cell) := by
  have e : rows.getD k [] = row := by rw [List.getD_eq_getElem?_getD, hk]; rfl
  unfold rowPut
  rw [e, take_drop_set hp]
theorem RowsOk.put {count wide : Nat} {rows : List (List Cell)} (ok : RowsOk count wide rows) {k p : Nat} {cell : Cell} (hk : k < count) (hp : p < wide) (hc : CellOk count cell) : RowsOk count wide (rowPut rows k p cell) := by
  have hkl : k < rows.length := by rw [ok.len]; exact hk
  have hrow := List.getElem?_eq_getElem hkl
  have hw := ok.wid _ (List.getElem_mem hkl)
  rw [rowPut_eq hrow (by omega)]
  refine ⟨by simp [ok.len], fun row h => ?_, fun row h c hcm => ?_⟩
  · rcases List.mem_or_eq_of_mem_set h with q | q
    · exact ok.wid row q
    · rw [q, List.length_set, hw]
  · rcases List.mem_or_eq_of_mem_set h with q | q
    · exact ok.cell row q c hcm
    · rw [q] at hcm
      rcases List.mem_or_eq_of_mem_set hcm with z | z
      · exact ok.cell _ (List.getElem_mem hkl) c z
      · rw [z]; exact hc
theorem cellAt_put {count wide : Nat} {rows : List (List Cell)} (ok : RowsOk count wide rows) {k p : Nat} {cell : Cell} (hk : k < count) (hp : p < wide) (i j : Nat) : cellAt (rowPut rows k p cell) i j = if i = k ∧ j = p then cell else cellAt rows i j := by
  have hkl : k < rows.length := by rw [ok.len]; exact hk
  have hrow := List.getElem?_eq_getElem hkl
  have hw := ok.wid _ (List.getElem_mem hkl)
  rw [rowPut_eq hrow (by omega)]
  unfold cellAt
  by_cases e : i = k
  · subst e
    rw [List.getElem?_set_self hkl, hrow]
    dsimp only
    by_cases e2 : j = p
    · subst e2
      rw [List.getElem?_set_self (by omega), if_pos ⟨rfl, rfl⟩]
      rfl
    · rw [List.getElem?_set_ne (fun z => e2 z.symm), if_neg fun z => e2 z.2]
  · rw [List.getElem?_set_ne (fun z => e z.symm), if_neg fun z => e z.1]
/-- the statement over rows told last -/
theorem sp_rowset2 {a b c X : ED} {σ : Sg} {g : G} {S : List (Nat × GO)} {lr k p count wide : Nat} {refs : List Nat} {rows : List (List Cell)} {cell : Cell} {P : Fl → Prop} (ir : Nat)
    (ha : ∀ g, a σ g = .ok (.ref lr) g) (hb : ∀ g, b σ g = .ok (.int (k : Nat)) g) (hc : ∀ g, c σ g = .ok (.int (p : Nat)) g) (hX : ∀ g, X σ g = .ok (cellW cell) g)
    (H : Has g (S ++ rowsPart refs rows)) (hir : S[ir]? = some (lr, GO.lst (refs.map .ref))) (hrl : refs.length = count) (ok : RowsOk count wide rows) (hk : k < count) (hw : wide ≤ 1000)
    (kk : ∀ l g', Has g' (S.set ir (lr, GO.lst ((refs.set k l).map .ref)) ++ rowsPart (refs.set k l) (rowPut rows k p cell)) → P (.nx σ g')) :
    wpF (rowsetS a b c X σ g) P := by
  have hkl : k < rows.length := by rw [ok.len]; exact hk
  have hrow := List.getElem?_eq_getElem hkl
  have hwl := ok.wid _ (List.getElem_mem hkl)
  have hil := (List.getElem?_eq_some_iff.mp hir).1
  have e : rows.getD k [] = rows[k] := by rw [List.getD_eq_getElem?_getD, hrow]; rfl
  refine sp_rowset ha hb hc hX H (.mk' (app_idx hir) (hrl.trans ok.len.symm) rfl) hrow (by omega) (fun j hj => by omega) fun l g' H => kk l g' ?_
  rw [app_setL hir, List.set_append_right _ _ (by rw [List.length_set]; omega), List.length_set, Nat.add_sub_cancel_left, rowsPart_set] at H
  unfold rowPut
  rw [e]
  exact H
theorem ordStep_mem {ord : List Nat} {k x : Nat} {c : Cell} (h : x ∈ ord) : x ∈ ordStep ord k c := by
  cases c with
  | none => exact h
  | some p =>
    obtain ⟨a, t⟩ := p
    have h1 : x ∈ (if k ∈ ord then ord else ord ++ [k]) := by
      split
      · exact h
      · exact List.mem_append_left _ h
    unfold ordStep
    dsimp only
    by_cases z : 0 ≤ t ∧ t.toNat ∉ (if k ∈ ord then ord else ord ++ [k])
    · rw [if_pos z]; exact List.mem_append_left _ h1
    · rw [if_neg z]; exact h1
theorem ordRow_mem {k x : Nat} : ∀ {row : List Cell} {ord : List Nat}, x ∈ ord → x ∈ ordRow ord k row
  | [], _, h => h
  | c :: row, ord, h => ordRow_mem (row := row) (ordStep_mem h)
theorem ordN_zero {rows : List (List Cell)} : ∀ n, 0 ∈ ordN rows n
  | 0 => by simp [ordN]
  | n + 1 => by
    unfold ordN
    rw [List.range_succ, List.foldl_append, List.foldl_cons, List.foldl_nil]
    exact ordRow_mem (ordN_zero n)
theorem ordN_pos {rows : List (List Cell)} {n : Nat} : 0 < (ordN rows n).length := List.length_pos_of_mem (ordN_zero n)
/-- an edge is set anew, in the table and in the rows -/
theorem Holds.upd {names acts : List Str} {count wide : Nat} {rows : List (List Cell)} {edges : List (List Key × W)} (h : Holds names acts count rows (fun _ _ => True) edges) (ok : RowsOk count wide rows) (nd : names.Nodup) (hl : count ≤ names.length) {k p a : Nat} {t : Int} (hk : k < count) (hp : p < wide) :
    Holds names acts count (rowPut rows k p (some (a, t))) (fun _ _ => True) (putKW (ek (nth names k) (p : Nat)) (.tup [.str (nth acts a), tgW (tgOf names t)]) edges) := fun i j hi => by
  refine ⟨fun _ => ?_, fun q => absurd trivial q⟩
  rw [cellAt_put ok hk hp]
  by_cases e : i = k ∧ j = p
  · obtain ⟨rfl, rfl⟩ := e
    rw [getK_put, if_pos ⟨rfl, rfl⟩]
    rfl
  · have ne : ek (nth names i) (j : Nat) ≠ ek (nth names k) (p : Nat) := fun z => by
      obtain ⟨x, y⟩ := ek_inj z
      exact e ⟨nth_inj nd (by omega) (by omega) x, by omega⟩
    rw [getK_put_ne ne, if_neg e]
    exact (h i j hi).1 trivial
theorem tgOf_nat {names : List Str} {k : Nat} : tgOf names (k : Nat) = some (nth names k) := by
  unfold tgOf
  rw [if_pos (by omega), Int.toNat_natCast]
theorem grown_same {nodes : List Str} {s : Str} {t : Str} (h : s ∈ nodes) (h2 : t ∈ nodes) : grown nodes s (some t) = nodes := by
  unfold grown grow1
  rw [if_pos h]
  dsimp only
  rw [if_pos h2]
end Q
end WL
end
section
set_option maxRecDepth 100000
namespace WL
namespace K12
open PySem PySem.Spec L2
open PyProof.Rows hiding St
open WL.Q
def t_list : IsTab := ⟨[("NoneType", false), ("bool", false), ("int", false), ("str", false), ("tuple", false), ("list", true), ("dict", false)], []⟩
def edge_table_fb0 : SD := (sDrop (eBM "list" appendM (eVar 1) (aCons (eJoin [(fmtE fmtS8 (eVar 2)), (eC (.str " ")), (fmtE fmtI2 (eVar 3)), (eC (.str " ")), (fmtE fmtS8 (eVar 4)), (eC (.str " ")), (fmtE fmtS (eOrT (eVar 5) (eC (.str "."))))]) aNil)))
def edge_table_r1 : SD := (sRet (eVar 1))
def m_edge_table : SD := (sSeq (sAsg (eLst aNil) (gNm 1)) (sSeq (sFor (iSeq (eMeth [(0, F_Chart_edges)] (eVar 0) aNil)) (gTupW 4 (gsCons (gNm 2) (gsCons (gNm 3) (gsCons (gNm 4) (gsCons (gNm 5) gsNil))))) edge_table_fb0) edge_table_r1))
def f_edge_table : FN := fnW 6 m_edge_table
def F_edge_table : FN := arity 1 f_edge_table
def due_fb0 : SD := (sSeq (sAsg (eBin (subW []) (eBin (subW []) (eVar 0) (eVar 4)) (eVar 5)) (gNm 6)) (sIf (tVal (eBin notNF (eVar 6) (eC .non))) (sSeq (sAsg (eBin addF (eBin addF (eBM "str" (justM Txt.ljust) (eBin (subW []) (eVar 1) (eVar 4)) (aCons (eC (.int 8)) aNil)) (eC (.str " "))) (eBM "str" (justM Txt.rjust) (eFn strF (aCons (eVar 5) aNil)) (aCons (eC (.int 2)) aNil))) (gNm 7)) (sSeq (sAsg (eBin addF (eBin addF (eVar 7) (eC (.str " "))) (eBM "str" (justM Txt.ljust) (eBin (subW []) (eVar 2) (eBin (subW []) (eVar 6) (eC (.int 0)))) (aCons (eC (.int 8)) aNil))) (gNm 7)) (sDrop (eBM "list" appendM (eVar 3) (aCons (eBin addF (eBin addF (eVar 7) (eC (.str " "))) (eIf (tVal (eBin geF (eBin (subW []) (eVar 6) (eC (.int 1))) (eC (.int 0)))) (eBin (subW []) (eVar 1) (eBin (subW []) (eVar 6) (eC (.int 1)))) (eC (.str ".")))) aNil))))) sNext))
def due_fb1 : SD := (sFor (iRange1 (aCons (eFn lenF (aCons (eBin (subW []) (eVar 0) (eVar 4)) aNil)) aNil)) (gNm 5) due_fb0)
def due_r2 : SD := (sRet (eVar 3))
def m_due : SD := (sSeq (sAsg (eLst aNil) (gNm 3)) (sSeq (sFor (iSeq (eFn F_order (aCons (eVar 0) aNil))) (gNm 4) due_fb1) due_r2))
def f_due : FN := fnW 8 m_due
def F_due : FN := arity 3 f_due
def law_fb0 : SD := (sSeq (sAsg (eFn F_draw (aCons (eVar 1) (aCons (eFn lenF (aCons (eVar 2) aNil)) aNil))) (gNm 5)) (sSeq (sAsg (eFn F_draw (aCons (eVar 1) (aCons (eVar 3) aNil))) (gNm 6)) (sAsg (eBin addF (eBin addF (eSlice (eBin (subW []) (eVar 2) (eVar 5)) none (some (eVar 6))) (eLst (aCons (eC .non) aNil))) (eSlice (eBin (subW []) (eVar 2) (eVar 5)) (some (eBin addF (eVar 6) (eC (.int 1)))) none)) (gSubW (setW []) (eVar 2) (eVar 5)))))
def law_le1 : ED := (eBin (subW []) (eVar 7) (eVar 5))
def law_fb2 : SD := (sSeq (sAsg (eBin (subW []) (eBin (subW []) (eVar 2) (eBM "list" indexM (eVar 7) (aCons (eVar 15) aNil))) (eVar 16)) (gNm 12)) (sIf (tVal (eBin notNF (eVar 12) (eC .non))) (sSeq (sAsg (eBin addF (eBin addF (eBM "str" (justM Txt.ljust) (eVar 15) (aCons (eC (.int 8)) aNil)) (eC (.str " "))) (eBM "str" (justM Txt.rjust) (eFn strF (aCons (eVar 16) aNil)) (aCons (eC (.int 2)) aNil))) (gNm 17)) (sSeq (sAsg (eBin addF (eBin addF (eVar 17) (eC (.str " "))) (eBM "str" (justM Txt.ljust) (eBin (subW []) (eVar 8) (eBin (subW []) (eVar 12) (eC (.int 0)))) (aCons (eC (.int 8)) aNil))) (gNm 17)) (sDrop (eBM "list" appendM (eVar 14) (aCons (eBin addF (eBin addF (eVar 17) (eC (.str " "))) (eIf (tVal (eBin geF (eBin (subW []) (eVar 12) (eC (.int 1))) (eC (.int 0)))) (eBin (subW []) (eVar 7) (eBin (subW []) (eVar 12) (eC (.int 1)))) (eC (.str ".")))) aNil))))) sNext))
def law_fb3 : SD := (sFor (iRange1 (aCons (eVar 3) aNil)) (gNm 16) law_fb2)
def law_le4 : ED := (eBin (subW []) (eVar 7) (eVar 18))
def law_r5 : SD := (sRet (eAnd (eBin eqF (eFn F_edge_table (aCons (eVar 9) aNil)) (eVar 14)) (eAnd (eBin eqF (eVar 13) (eSlice (eVar 11) none (some (eC (.int (-1)))))) (eBin eqF (eFn (listOF [(0, F_Chart_len)] [(0, 2)]) (aCons (eVar 9) aNil)) (eLc (iSeq (eVar 10)) (gNm 18) tYesW law_le4 [18])))))
def law_r6 : SD := (sSeq (sAsg (eBin (subW []) (eVar 10) (eFn F_draw (aCons (eVar 1) (aCons (eFn lenF (aCons (eVar 10) aNil)) aNil)))) (gNm 5)) (sSeq (sAsg (eFn F_draw (aCons (eVar 1) (aCons (eVar 3) aNil))) (gNm 6)) (sSeq (sAsg (eTup (aCons (eFn F_draw (aCons (eVar 1) (aCons (eC (.int 4)) aNil))) (aCons (eBin (subW []) (eVar 10) (eFn F_draw (aCons (eVar 1) (aCons (eFn lenF (aCons (eVar 10) aNil)) aNil)))) aNil))) (gNm 12)) (sSeq (sAsg (eFn F_edge_table (aCons (eVar 9) aNil)) (gNm 13)) (sSeq (sAsg (eTup (aCons (eBin (subW []) (eVar 8) (eBin (subW []) (eVar 12) (eC (.int 0)))) (aCons (eBin (subW []) (eVar 7) (eBin (subW []) (eVar 12) (eC (.int 1)))) aNil))) (gSubW (setW [(0, F_Chart_setitem)]) (eVar 9) (eTup (aCons (eBin (subW []) (eVar 7) (eVar 5)) (aCons (eVar 6) aNil))))) (sSeq (sAsg (eBin addF (eBin addF (eSlice (eBin (subW []) (eVar 2) (eVar 5)) none (some (eVar 6))) (eLst (aCons (eVar 12) aNil))) (eSlice (eBin (subW []) (eVar 2) (eVar 5)) (some (eBin addF (eVar 6) (eC (.int 1)))) none)) (gSubW (setW []) (eVar 2) (eVar 5))) (sSeq (sAsg (eLst aNil) (gNm 14)) (sSeq (sFor (iAny [(0, 2)] (eVar 9)) (gNm 15) law_fb3) law_r5))))))))
def law_r7 : SD := (sSeq (sDrop (eBM "list" appendM (eVar 11) (aCons (eC (.str "x")) aNil))) (sSeq (sIf (tVal (eBin neF (eFn (listOF [(0, F_Chart_len)] [(0, 2)]) (aCons (eVar 9) aNil)) (eLc (iSeq (eVar 10)) (gNm 5) tYesW law_le1 [5]))) (sRet (eC (.bl false))) sNext) law_r6))
def law_r8 : SD := (sSeq (sAsg (eFn F_words (aCons (eVar 1) (aCons (eFn lenF (aCons (eVar 2) aNil)) aNil))) (gNm 7)) (sSeq (sAsg (eFn F_words (aCons (eVar 1) (aCons (eC (.int 4)) aNil))) (gNm 8)) (sSeq (sAsg (eFn F_part (aCons (eVar 2) (aCons (eVar 7) (aCons (eVar 8) aNil)))) (gNm 9)) (sSeq (sAsg (eFn F_order (aCons (eVar 2) aNil)) (gNm 10)) (sSeq (sDrop (eMeth [(0, F_Chart_start_at)] (eVar 9) (aCons (eBin (subW []) (eVar 7) (eBin (subW []) (eVar 10) (eFn F_draw (aCons (eVar 1) (aCons (eFn lenF (aCons (eVar 10) aNil)) aNil))))) aNil))) (sSeq (sAsg (eFn F_edge_table (aCons (eVar 9) aNil)) (gNm 11)) (sSeq (sIf (tOr (tNot (tTru (eIs t_list (eVar 11)))) (tVal (eBin neF (eVar 11) (eFn F_due (aCons (eVar 2) (aCons (eVar 7) (aCons (eVar 8) aNil))))))) (sRet (eC (.bl false))) sNext) law_r7)))))))
def m_law : SD := (sSeq (sAsg (eLst (aCons (eFn listF (aCons (eVar 0) aNil)) (aCons (eC (.int 0)) (aCons (eC (.int 0)) (aCons (eC (.int 0)) aNil))))) (gNm 1)) (sSeq (sAsg (eFn F_rows (aCons (eVar 1) (aCons (eC (.int 10)) (aCons (eC (.int 30)) aNil)))) (gNm 2)) (sSeq (sAsg (eFn lenF (aCons (eBin (subW []) (eVar 2) (eC (.int 0))) aNil)) (gNm 3)) (sSeq (sFor (iRange1 (aCons (eFn F_draw (aCons (eVar 1) (aCons (eC (.int 6)) aNil))) aNil)) (gNm 4) law_fb0) law_r8))))
def f_law : FN := fnW 19 m_law
def F_law : FN := arity 1 f_law
end K12
end WL
end
section
set_option maxRecDepth 100000
set_option maxHeartbeats 1000000
namespace WL
namespace K12
open PySem
open L2 (Key)
open WL.Q
set_option autoImplicit true
def lineS (node : Str) (k : Nat) (name tg : Str) : Str := Txt.ljust node 8 ++ " " ++ Txt.rjust (toString ((k : Nat) : Int)) 2 ++ " " ++ Txt.ljust name 8 ++ " " ++ tg
def tgS : Option Str → Str
  | none => "."
  | some s => s
theorem dot_len : ("." : Str).length = 1 := by decide
theorem sp_len : (" " : Str).length = 1 := by decide
theorem tgS_len {t : Option Str} (h : TgOk t) : (tgS t).length ≤ 8 := by
  cases t with
  | none => show ("." : Str).length ≤ 8; decide
  | some s => exact (show Nm s from h).len8
def lineW (w : W) : W := match w with
  | .tup [.str n, .int k, .str nm, t] => .str (lineS n k.toNat nm (match t with | .str s => s | _ => "."))
  | _ => .non
theorem lineW_at {n nm : Str} {k : Nat} {t : Option Str} : lineW (.tup [.str n, .int (k : Nat), .str nm, tgW t]) = .str (lineS n k nm (tgS t)) := by
  cases t <;> rfl
theorem edge_form {wide : Nat} {nodes : List Str} {edges : List (List Key × W)} (hE : EdgesOk edges) {w : W} (hw : w ∈ edgesL wide nodes edges) : ∃ s k nm t, s ∈ nodes ∧ k < wide ∧ Nm nm ∧ TgOk t ∧ w = .tup [.str s, .int (k : Nat), .str nm, tgW t] := by
  unfold edgesL at hw
  obtain ⟨s, hs, hw⟩ := List.mem_flatMap.mp hw
  unfold outE at hw
  obtain ⟨j, hj, rfl⟩ := List.mem_map.mp hw
  have hj2 := List.mem_filter.mp hj
  have hj3 := hj2.2
  unfold edgeW at hj3 ⊢
  cases hg : getK (ek s (j : Int)) edges with
  | none => rw [hg] at hj3; cases hj3
  | some w =>
    obtain ⟨nm, t, rfl, hnm, ht⟩ := hE _ _ hg
    exact ⟨s, j, nm, t, hs, by simpa using hj2.1, hnm, ht, rfl⟩
theorem sp_edge_table {g : G} {S : List (Nat × GO)} {ic il ie c ln le wide : Nat} {start : Str} {nodes : List Str} {edges : List (List Key × W)} {P : Out W → Prop} (H : Has g S) (C : Ch S ic il ie c ln le (wide : Int) start nodes edges) (hw : wide ≤ 4) (hl : nodes.length ≤ 100) (hE : EdgesOk edges) (hN : ∀ s ∈ nodes, Nm s)
    (k : ∀ l g', Has g' ((l, GO.lst ((edgesL wide nodes edges).map lineW)) :: S) → P (.ok (.ref l) g')) : wpO (F_edge_table [.ref c] g) P := by
  have hlen : (edgesL wide nodes edges).length ≤ 400 := by
    have : ∀ l : List Str, (l.flatMap (outE wide edges)).length ≤ l.length * 4 := fun l => by
      induction l with
      | nil => simp
      | cons a l ih =>
        have := outE_len (wide := wide) (edges := edges) (s := a)
        rw [List.flatMap_cons, List.length_append, List.length_cons, Nat.add_mul]
        omega
    exact Nat.le_trans (this nodes) (by omega)
  show wpO (f_edge_table [.ref c] g) P
  unfold f_edge_table m_edge_table
  ((try simp only [List.set_cons_zero, List.set_cons_succ, List.eraseIdx_cons_zero, List.eraseIdx_cons_succ, List.cons_append, List.nil_append] at H); have hH := H; (try simp only [has_cons, has_nil, dist_cons, dist_nil, ne_eq, and_true, true_and, List.set_cons_zero, List.set_cons_succ] at hH); simp only [wp_bind, wp_fl, wp_sq, wp_out, wpO_ok, wpO_ex, wpF_nx, wpF_rt, wpF_ex, wpF_bk, wpF_ct, bP_ok, bP_ex, lP_ok, lP_ex, qP_nx, qP_rt, qP_ex, qP_bk, qP_ct, oP_rt, oP_nx, oP_ex, loopP_nx, loopP_ct, loopP_bk, loopP_rt, loopP_ex, tgP_ok, wp_try, tryP_nx, tryP_rt, tryP_ct, tryP_bk, offS_rt, offS_nx, br_t, br_f, e_var0, e_varS, e_c, e_bin, a_nil, a_cons, e_fn, e_tup, asB_bl, t_val, asT_bl, t_tru, t_not, t_and, t_or, e_if, e_and, e_or, e_not, e_chain, e_fld, e_con, e_bm, e_star, WL.Q.pe_lst, pe_dict0, pe_dict0K, pe_meth, meth1_ins, con1_ins, s_seq, s_drop, s_ret, s_if, s_next, s_retN, s_asg, s_for, g_nm, g_sub, s_raise, fn_w, out_rt, out_nx, out_ex, set0, setS, lt_ii, le_ii, gt_ii, ge_ii, sub_ii, add_ii, int_i, eq_ii, ne_ii, sub_ref, sub1_lst, sub1_insF, ixSeq0, ixSeq1, ixSeq2, ixSeq3, sub_tup, set_ref, pset_ek, pset_own, startW, List.map_cons, List.map_nil, List.length_cons, List.length_nil, List.replicate_succ, List.replicate_zero, List.cons_append, List.nil_append, Nat.reduceAdd, Nat.reduceSub, Nat.add_sub_cancel, decide_true, decide_false, Bool.not_true, Bool.not_false, List.length_append, List.set_cons_zero, List.set_cons_succ, Nat.reduceLT, Nat.reduceEqDiff, ↓reduceIte, Nat.zero_ne_one, Nat.one_ne_zero, app_ref, papp1, ty_ref, isL_lst, list_ref, plist1, s_fld, ins_ref, ins1_ins, ps_fld1, putW, fldOf, getW, g_tup2, not_non, not_str, nin_in, in_ref, in1_strs, in1_dT, in1_insF, len_ref1, len1_lst, List.length_map, Nat.zero_add, getD, pe_lc, pi_range1, range1_i, WL.Q.pi_seq, itemsR_ref, items1_lst, itemsR_tup, lenO_ref, lenO1_ins, natC_int, pe_is, isB_some, isR_tup, isR_int, isR_str, isR_bl, isR_non, isR_ref, isR1_lst, isR1_ins, WL.Q.pe_prop, prop1_ins, wp_noX, nP_ok, not_bl, is_non, is_str, is_bl, notnon_bl, isnon_bl, notnon_ref, isnon_ref, is_tg, not_tg, eq_bb, ne_bb, xi, dget_some, psub_ek, list_scr, list_tup, bind_ok, bind_ex, fl_ok, fl_ex, sq_nx, sq_rt, sq_ex, sq_bk, sq_ct, optE_none, optE_some, optI_int, slice_ref, slice1_lst, slice_tup, add_ref, add2_lst, tt_and, WL.Q.pe_slice, s_prop, sprop1_ins, notnon_tup, notnon_int, pi_any, WL.Q.pe_fmt, fmtR_some, WL.Q.pe_orT, orR_t, orR_f, tru_non, just8, just2, g_tup4, hH, show fits 0 = true from rfl]; (try clear hH))
  refine wp_alloc H fun lx g H => ?_
  ((try simp only [List.set_cons_zero, List.set_cons_succ, List.eraseIdx_cons_zero, List.eraseIdx_cons_succ, List.cons_append, List.nil_append] at H); have hH := H; (try simp only [has_cons, has_nil, dist_cons, dist_nil, ne_eq, and_true, true_and, List.set_cons_zero, List.set_cons_succ] at hH); simp only [wp_bind, wp_fl, wp_sq, wp_out, wpO_ok, wpO_ex, wpF_nx, wpF_rt, wpF_ex, wpF_bk, wpF_ct, bP_ok, bP_ex, lP_ok, lP_ex, qP_nx, qP_rt, qP_ex, qP_bk, qP_ct, oP_rt, oP_nx, oP_ex, loopP_nx, loopP_ct, loopP_bk, loopP_rt, loopP_ex, tgP_ok, wp_try, tryP_nx, tryP_rt, tryP_ct, tryP_bk, offS_rt, offS_nx, br_t, br_f, e_var0, e_varS, e_c, e_bin, a_nil, a_cons, e_fn, e_tup, asB_bl, t_val, asT_bl, t_tru, t_not, t_and, t_or, e_if, e_and, e_or, e_not, e_chain, e_fld, e_con, e_bm, e_star, WL.Q.pe_lst, pe_dict0, pe_dict0K, pe_meth, meth1_ins, con1_ins, s_seq, s_drop, s_ret, s_if, s_next, s_retN, s_asg, s_for, g_nm, g_sub, s_raise, fn_w, out_rt, out_nx, out_ex, set0, setS, lt_ii, le_ii, gt_ii, ge_ii, sub_ii, add_ii, int_i, eq_ii, ne_ii, sub_ref, sub1_lst, sub1_insF, ixSeq0, ixSeq1, ixSeq2, ixSeq3, sub_tup, set_ref, pset_ek, pset_own, startW, List.map_cons, List.map_nil, List.length_cons, List.length_nil, List.replicate_succ, List.replicate_zero, List.cons_append, List.nil_append, Nat.reduceAdd, Nat.reduceSub, Nat.add_sub_cancel, decide_true, decide_false, Bool.not_true, Bool.not_false, List.length_append, List.set_cons_zero, List.set_cons_succ, Nat.reduceLT, Nat.reduceEqDiff, ↓reduceIte, Nat.zero_ne_one, Nat.one_ne_zero, app_ref, papp1, ty_ref, isL_lst, list_ref, plist1, s_fld, ins_ref, ins1_ins, ps_fld1, putW, fldOf, getW, g_tup2, not_non, not_str, nin_in, in_ref, in1_strs, in1_dT, in1_insF, len_ref1, len1_lst, List.length_map, Nat.zero_add, getD, pe_lc, pi_range1, range1_i, WL.Q.pi_seq, itemsR_ref, items1_lst, itemsR_tup, lenO_ref, lenO1_ins, natC_int, pe_is, isB_some, isR_tup, isR_int, isR_str, isR_bl, isR_non, isR_ref, isR1_lst, isR1_ins, WL.Q.pe_prop, prop1_ins, wp_noX, nP_ok, not_bl, is_non, is_str, is_bl, notnon_bl, isnon_bl, notnon_ref, isnon_ref, is_tg, not_tg, eq_bb, ne_bb, xi, dget_some, psub_ek, list_scr, list_tup, bind_ok, bind_ex, fl_ok, fl_ex, sq_nx, sq_rt, sq_ex, sq_bk, sq_ct, optE_none, optE_some, optI_int, slice_ref, slice1_lst, slice_tup, add_ref, add2_lst, tt_and, WL.Q.pe_slice, s_prop, sprop1_ins, notnon_tup, notnon_int, pi_any, WL.Q.pe_fmt, fmtR_some, WL.Q.pe_orT, orR_t, orR_f, tru_non, just8, just2, g_tup4, hH, H.2.2.get C.hc]; (try clear hH))
  refine sp_edges H C.cons hw hl hE fun lt g H => ?_
  ((try simp only [List.set_cons_zero, List.set_cons_succ, List.eraseIdx_cons_zero, List.eraseIdx_cons_succ, List.cons_append, List.nil_append] at H); have hH := H; (try simp only [has_cons, has_nil, dist_cons, dist_nil, ne_eq, and_true, true_and, List.set_cons_zero, List.set_cons_succ] at hH); simp only [wp_bind, wp_fl, wp_sq, wp_out, wpO_ok, wpO_ex, wpF_nx, wpF_rt, wpF_ex, wpF_bk, wpF_ct, bP_ok, bP_ex, lP_ok, lP_ex, qP_nx, qP_rt, qP_ex, qP_bk, qP_ct, oP_rt, oP_nx, oP_ex, loopP_nx, loopP_ct, loopP_bk, loopP_rt, loopP_ex, tgP_ok, wp_try, tryP_nx, tryP_rt, tryP_ct, tryP_bk, offS_rt, offS_nx, br_t, br_f, e_var0, e_varS, e_c, e_bin, a_nil, a_cons, e_fn, e_tup, asB_bl, t_val, asT_bl, t_tru, t_not, t_and, t_or, e_if, e_and, e_or, e_not, e_chain, e_fld, e_con, e_bm, e_star, WL.Q.pe_lst, pe_dict0, pe_dict0K, pe_meth, meth1_ins, con1_ins, s_seq, s_drop, s_ret, s_if, s_next, s_retN, s_asg, s_for, g_nm, g_sub, s_raise, fn_w, out_rt, out_nx, out_ex, set0, setS, lt_ii, le_ii, gt_ii, ge_ii, sub_ii, add_ii, int_i, eq_ii, ne_ii, sub_ref, sub1_lst, sub1_insF, ixSeq0, ixSeq1, ixSeq2, ixSeq3, sub_tup, set_ref, pset_ek, pset_own, startW, List.map_cons, List.map_nil, List.length_cons, List.length_nil, List.replicate_succ, List.replicate_zero, List.cons_append, List.nil_append, Nat.reduceAdd, Nat.reduceSub, Nat.add_sub_cancel, decide_true, decide_false, Bool.not_true, Bool.not_false, List.length_append, List.set_cons_zero, List.set_cons_succ, Nat.reduceLT, Nat.reduceEqDiff, ↓reduceIte, Nat.zero_ne_one, Nat.one_ne_zero, app_ref, papp1, ty_ref, isL_lst, list_ref, plist1, s_fld, ins_ref, ins1_ins, ps_fld1, putW, fldOf, getW, g_tup2, not_non, not_str, nin_in, in_ref, in1_strs, in1_dT, in1_insF, len_ref1, len1_lst, List.length_map, Nat.zero_add, getD, pe_lc, pi_range1, range1_i, WL.Q.pi_seq, itemsR_ref, items1_lst, itemsR_tup, lenO_ref, lenO1_ins, natC_int, pe_is, isB_some, isR_tup, isR_int, isR_str, isR_bl, isR_non, isR_ref, isR1_lst, isR1_ins, WL.Q.pe_prop, prop1_ins, wp_noX, nP_ok, not_bl, is_non, is_str, is_bl, notnon_bl, isnon_bl, notnon_ref, isnon_ref, is_tg, not_tg, eq_bb, ne_bb, xi, dget_some, psub_ek, list_scr, list_tup, bind_ok, bind_ex, fl_ok, fl_ex, sq_nx, sq_rt, sq_ex, sq_bk, sq_ct, optE_none, optE_some, optI_int, slice_ref, slice1_lst, slice_tup, add_ref, add2_lst, tt_and, WL.Q.pe_slice, s_prop, sprop1_ins, notnon_tup, notnon_int, pi_any, WL.Q.pe_fmt, fmtR_some, WL.Q.pe_orT, orR_t, orR_f, tru_non, just8, just2, g_tup4, hH]; (try clear hH))
  refine wp_for (J := ⟨edgesL wide nodes edges, some lt⟩) (fun i σ g => ∃ o2 o3 o4 o5, σ = [some (.ref c), some (.ref lx), o2, o3, o4, o5] ∧ Has g ((lt, GO.lst (edgesL wide nodes edges)) :: (lx, GO.lst (((edgesL wide nodes edges).take i).map lineW)) :: S)) ⟨_, _, _, _, rfl, H⟩ (fun i σ g hI => ?_) (fun i w σ g hw hI => ?_) (fun σ g hI => ?_)
  · obtain ⟨_, _, _, _, _, H⟩ := hI
    exact decide_eq_true H.1
  · obtain ⟨o2, o3, o4, o5, rfl, H⟩ := hI
    have hw2 : (edgesL wide nodes edges)[i]? = some w := hw
    have htk : (edgesL wide nodes edges).take (i + 1) = (edgesL wide nodes edges).take i ++ [w] := by rw [List.take_add_one, hw2]; rfl
    have hform := edge_form hE (List.mem_of_getElem? hw2)
    cases hform with
    | intro s h1 =>
    cases h1 with
    | intro j h2 =>
    cases h2 with
    | intro nm h3 =>
    cases h3 with
    | intro t h4 =>
    have hs := h4.1
    have hj : j < 4 := Nat.lt_of_lt_of_le h4.2.1 ‹wide ≤ 4›
    have hnm := h4.2.2.1
    have ht := h4.2.2.2.1
    have hwe := h4.2.2.2.2
    clear h4
    subst hwe
    have hfl : fits ((edgesL wide nodes edges).take i).length = true := fits_of (by exact Nat.le_trans (List.length_take_le' _ _) (by omega))
    have jo : ∀ g : G, eJoin [(fmtE fmtS8 (eVar 2)), (eC (.str " ")), (fmtE fmtI2 (eVar 3)), (eC (.str " ")), (fmtE fmtS8 (eVar 4)), (eC (.str " ")), (fmtE fmtS (eOrT (eVar 5) (eC (.str "."))))] [some (.ref c), some (.ref lx), some (.str s), some (.int (j : Nat)), some (.str nm), some (tgW t)] g = Out.ok (.str (lineS s j nm (tgS t))) g := fun g => by
      have v : JV [some (.ref c), some (.ref lx), some (.str s), some (.int (j : Nat)), some (.str nm), some (tgW t)] g [(fmtE fmtS8 (eVar 2)), (eC (.str " ")), (fmtE fmtI2 (eVar 3)), (eC (.str " ")), (fmtE fmtS8 (eVar 4)), (eC (.str " ")), (fmtE fmtS (eOrT (eVar 5) (eC (.str "."))))] [Txt.ljust s 8, " ", Txt.rjust (toString ((j : Nat) : Int)) 2, " ", Txt.ljust nm 8, " ", tgS t] := by
        refine .cons ?_ (.cons rfl (.cons ?_ (.cons rfl (.cons ?_ (.cons rfl (.cons ?_ .nil))))))
        · simp only [bind_ok, bind_ex, fl_ok, fl_ex, sq_nx, sq_rt, sq_ex, sq_bk, sq_ct, br_t, br_f, e_var0, e_varS, e_c, e_bin, a_nil, a_cons, e_fn, e_tup, e_lst, asB_bl, t_val, asT_bl, t_tru, t_not, t_and, t_or, e_if, e_and, e_or, e_not, e_chain, e_fld, e_meth, e_con, e_bm, e_star, s_seq, s_drop, s_ret, s_if, s_next, s_retN, s_asg, g_nm, g_sub, s_raise, fn_w, out_rt, out_nx, out_ex, set0, setS, lt_ii, le_ii, gt_ii, ge_ii, sub_ii, add_ii, int_i, eq_ii, ne_ii, sub_ref, sub1_lst, ixSeq0, ixSeq1, ixSeq2, ixSeq3, set_ref, set1_1, set1_2, set1_3, startW, List.map_cons, List.map_nil, List.length_cons, List.length_nil, List.replicate_succ, List.replicate_zero, List.cons_append, List.nil_append, Nat.reduceAdd, Nat.reduceSub, Nat.add_sub_cancel, decide_true, decide_false, Bool.not_true, Bool.not_false, s_fld, ins_ref, List.append_assoc, app_get0, app_getk, app_set0, app_setk, List.getElem?_cons_zero, ins1_ins, fld1_some, putW, e_dict0, List.length_append, List.set_cons_zero, List.set_cons_succ, List.getElem?_cons_succ, Nat.reduceLT, Nat.reduceEqDiff, ↓reduceIte, Nat.zero_ne_one, Nat.one_ne_zero, g_tup2, app_ref, app1_lst, ty_ref, isL_lst, list_ref, list1_lst, not_non, not_str, Nat.zero_add, nin_ref, nin1_strs, snoc_get, len_ref1, len1_lst, List.length_map, WL.Q.pe_fmt, fmtS8_nm (hN s hs), fmtR_some]
        · simp only [bind_ok, bind_ex, fl_ok, fl_ex, sq_nx, sq_rt, sq_ex, sq_bk, sq_ct, br_t, br_f, e_var0, e_varS, e_c, e_bin, a_nil, a_cons, e_fn, e_tup, e_lst, asB_bl, t_val, asT_bl, t_tru, t_not, t_and, t_or, e_if, e_and, e_or, e_not, e_chain, e_fld, e_meth, e_con, e_bm, e_star, s_seq, s_drop, s_ret, s_if, s_next, s_retN, s_asg, g_nm, g_sub, s_raise, fn_w, out_rt, out_nx, out_ex, set0, setS, lt_ii, le_ii, gt_ii, ge_ii, sub_ii, add_ii, int_i, eq_ii, ne_ii, sub_ref, sub1_lst, ixSeq0, ixSeq1, ixSeq2, ixSeq3, set_ref, set1_1, set1_2, set1_3, startW, List.map_cons, List.map_nil, List.length_cons, List.length_nil, List.replicate_succ, List.replicate_zero, List.cons_append, List.nil_append, Nat.reduceAdd, Nat.reduceSub, Nat.add_sub_cancel, decide_true, decide_false, Bool.not_true, Bool.not_false, s_fld, ins_ref, List.append_assoc, app_get0, app_getk, app_set0, app_setk, List.getElem?_cons_zero, ins1_ins, fld1_some, putW, e_dict0, List.length_append, List.set_cons_zero, List.set_cons_succ, List.getElem?_cons_succ, Nat.reduceLT, Nat.reduceEqDiff, ↓reduceIte, Nat.zero_ne_one, Nat.one_ne_zero, g_tup2, app_ref, app1_lst, ty_ref, isL_lst, list_ref, list1_lst, not_non, not_str, Nat.zero_add, nin_ref, nin1_strs, snoc_get, len_ref1, len1_lst, List.length_map, WL.Q.pe_fmt, fmtI2_nat hj, fmtR_some]
        · simp only [bind_ok, bind_ex, fl_ok, fl_ex, sq_nx, sq_rt, sq_ex, sq_bk, sq_ct, br_t, br_f, e_var0, e_varS, e_c, e_bin, a_nil, a_cons, e_fn, e_tup, e_lst, asB_bl, t_val, asT_bl, t_tru, t_not, t_and, t_or, e_if, e_and, e_or, e_not, e_chain, e_fld, e_meth, e_con, e_bm, e_star, s_seq, s_drop, s_ret, s_if, s_next, s_retN, s_asg, g_nm, g_sub, s_raise, fn_w, out_rt, out_nx, out_ex, set0, setS, lt_ii, le_ii, gt_ii, ge_ii, sub_ii, add_ii, int_i, eq_ii, ne_ii, sub_ref, sub1_lst, ixSeq0, ixSeq1, ixSeq2, ixSeq3, set_ref, set1_1, set1_2, set1_3, startW, List.map_cons, List.map_nil, List.length_cons, List.length_nil, List.replicate_succ, List.replicate_zero, List.cons_append, List.nil_append, Nat.reduceAdd, Nat.reduceSub, Nat.add_sub_cancel, decide_true, decide_false, Bool.not_true, Bool.not_false, s_fld, ins_ref, List.append_assoc, app_get0, app_getk, app_set0, app_setk, List.getElem?_cons_zero, ins1_ins, fld1_some, putW, e_dict0, List.length_append, List.set_cons_zero, List.set_cons_succ, List.getElem?_cons_succ, Nat.reduceLT, Nat.reduceEqDiff, ↓reduceIte, Nat.zero_ne_one, Nat.one_ne_zero, g_tup2, app_ref, app1_lst, ty_ref, isL_lst, list_ref, list1_lst, not_non, not_str, Nat.zero_add, nin_ref, nin1_strs, snoc_get, len_ref1, len1_lst, List.length_map, WL.Q.pe_fmt, fmtS8_nm hnm, fmtR_some]
        · cases t with
          | none => simp only [bind_ok, bind_ex, fl_ok, fl_ex, sq_nx, sq_rt, sq_ex, sq_bk, sq_ct, br_t, br_f, e_var0, e_varS, e_c, e_bin, a_nil, a_cons, e_fn, e_tup, e_lst, asB_bl, t_val, asT_bl, t_tru, t_not, t_and, t_or, e_if, e_and, e_or, e_not, e_chain, e_fld, e_meth, e_con, e_bm, e_star, s_seq, s_drop, s_ret, s_if, s_next, s_retN, s_asg, g_nm, g_sub, s_raise, fn_w, out_rt, out_nx, out_ex, set0, setS, lt_ii, le_ii, gt_ii, ge_ii, sub_ii, add_ii, int_i, eq_ii, ne_ii, sub_ref, sub1_lst, ixSeq0, ixSeq1, ixSeq2, ixSeq3, set_ref, set1_1, set1_2, set1_3, startW, List.map_cons, List.map_nil, List.length_cons, List.length_nil, List.replicate_succ, List.replicate_zero, List.cons_append, List.nil_append, Nat.reduceAdd, Nat.reduceSub, Nat.add_sub_cancel, decide_true, decide_false, Bool.not_true, Bool.not_false, s_fld, ins_ref, List.append_assoc, app_get0, app_getk, app_set0, app_setk, List.getElem?_cons_zero, ins1_ins, fld1_some, putW, e_dict0, List.length_append, List.set_cons_zero, List.set_cons_succ, List.getElem?_cons_succ, Nat.reduceLT, Nat.reduceEqDiff, ↓reduceIte, Nat.zero_ne_one, Nat.one_ne_zero, g_tup2, app_ref, app1_lst, ty_ref, isL_lst, list_ref, list1_lst, not_non, not_str, Nat.zero_add, nin_ref, nin1_strs, snoc_get, len_ref1, len1_lst, List.length_map, WL.Q.pe_fmt, WL.Q.pe_orT, tgW, tru_non, orR_f, fmtS_str (s := ".") (by decide), fmtR_some, tgS]
          | some u => simp only [bind_ok, bind_ex, fl_ok, fl_ex, sq_nx, sq_rt, sq_ex, sq_bk, sq_ct, br_t, br_f, e_var0, e_varS, e_c, e_bin, a_nil, a_cons, e_fn, e_tup, e_lst, asB_bl, t_val, asT_bl, t_tru, t_not, t_and, t_or, e_if, e_and, e_or, e_not, e_chain, e_fld, e_meth, e_con, e_bm, e_star, s_seq, s_drop, s_ret, s_if, s_next, s_retN, s_asg, g_nm, g_sub, s_raise, fn_w, out_rt, out_nx, out_ex, set0, setS, lt_ii, le_ii, gt_ii, ge_ii, sub_ii, add_ii, int_i, eq_ii, ne_ii, sub_ref, sub1_lst, ixSeq0, ixSeq1, ixSeq2, ixSeq3, set_ref, set1_1, set1_2, set1_3, startW, List.map_cons, List.map_nil, List.length_cons, List.length_nil, List.replicate_succ, List.replicate_zero, List.cons_append, List.nil_append, Nat.reduceAdd, Nat.reduceSub, Nat.add_sub_cancel, decide_true, decide_false, Bool.not_true, Bool.not_false, s_fld, ins_ref, List.append_assoc, app_get0, app_getk, app_set0, app_setk, List.getElem?_cons_zero, ins1_ins, fld1_some, putW, e_dict0, List.length_append, List.set_cons_zero, List.set_cons_succ, List.getElem?_cons_succ, Nat.reduceLT, Nat.reduceEqDiff, ↓reduceIte, Nat.zero_ne_one, Nat.one_ne_zero, g_tup2, app_ref, app1_lst, ty_ref, isL_lst, list_ref, list1_lst, not_non, not_str, Nat.zero_add, nin_ref, nin1_strs, snoc_get, len_ref1, len1_lst, List.length_map, WL.Q.pe_fmt, WL.Q.pe_orT, tgW, tru_nm (show Nm u from ht), orR_t, fmtS_str (s := u) (Nat.le_trans (show Nm u from ht).len8 (by decide)), fmtR_some, tgS]
      rw [join_at v]
      · unfold lineS
        simp only [List.foldl_cons, List.foldl_nil, empty_app]
      · have := tgS_len ht
        simp only [List.map_cons, List.map_nil, List.sum_cons, List.sum_nil, ljust8_len (hN s hs), ljust8_len hnm, rjust2_len hj, sp_len]
        omega
    ((try simp only [List.set_cons_zero, List.set_cons_succ, List.eraseIdx_cons_zero, List.eraseIdx_cons_succ, List.cons_append, List.nil_append] at H); have hH := H; (try simp only [has_cons, has_nil, dist_cons, dist_nil, ne_eq, and_true, true_and, List.set_cons_zero, List.set_cons_succ] at hH); simp only [wp_bind, wp_fl, wp_sq, wp_out, wpO_ok, wpO_ex, wpF_nx, wpF_rt, wpF_ex, wpF_bk, wpF_ct, bP_ok, bP_ex, lP_ok, lP_ex, qP_nx, qP_rt, qP_ex, qP_bk, qP_ct, oP_rt, oP_nx, oP_ex, loopP_nx, loopP_ct, loopP_bk, loopP_rt, loopP_ex, tgP_ok, wp_try, tryP_nx, tryP_rt, tryP_ct, tryP_bk, offS_rt, offS_nx, br_t, br_f, e_var0, e_varS, e_c, e_bin, a_nil, a_cons, e_fn, e_tup, asB_bl, t_val, asT_bl, t_tru, t_not, t_and, t_or, e_if, e_and, e_or, e_not, e_chain, e_fld, e_con, e_bm, e_star, WL.Q.pe_lst, pe_dict0, pe_dict0K, pe_meth, meth1_ins, con1_ins, s_seq, s_drop, s_ret, s_if, s_next, s_retN, s_asg, s_for, g_nm, g_sub, s_raise, fn_w, out_rt, out_nx, out_ex, set0, setS, lt_ii, le_ii, gt_ii, ge_ii, sub_ii, add_ii, int_i, eq_ii, ne_ii, sub_ref, sub1_lst, sub1_insF, ixSeq0, ixSeq1, ixSeq2, ixSeq3, sub_tup, set_ref, pset_ek, pset_own, startW, List.map_cons, List.map_nil, List.length_cons, List.length_nil, List.replicate_succ, List.replicate_zero, List.cons_append, List.nil_append, Nat.reduceAdd, Nat.reduceSub, Nat.add_sub_cancel, decide_true, decide_false, Bool.not_true, Bool.not_false, List.length_append, List.set_cons_zero, List.set_cons_succ, Nat.reduceLT, Nat.reduceEqDiff, ↓reduceIte, Nat.zero_ne_one, Nat.one_ne_zero, app_ref, papp1, ty_ref, isL_lst, list_ref, plist1, s_fld, ins_ref, ins1_ins, ps_fld1, putW, fldOf, getW, g_tup2, not_non, not_str, nin_in, in_ref, in1_strs, in1_dT, in1_insF, len_ref1, len1_lst, List.length_map, Nat.zero_add, getD, pe_lc, pi_range1, range1_i, WL.Q.pi_seq, itemsR_ref, items1_lst, itemsR_tup, lenO_ref, lenO1_ins, natC_int, pe_is, isB_some, isR_tup, isR_int, isR_str, isR_bl, isR_non, isR_ref, isR1_lst, isR1_ins, WL.Q.pe_prop, prop1_ins, wp_noX, nP_ok, not_bl, is_non, is_str, is_bl, notnon_bl, isnon_bl, notnon_ref, isnon_ref, is_tg, not_tg, eq_bb, ne_bb, xi, dget_some, psub_ek, list_scr, list_tup, bind_ok, bind_ex, fl_ok, fl_ex, sq_nx, sq_rt, sq_ex, sq_bk, sq_ct, optE_none, optE_some, optI_int, slice_ref, slice1_lst, slice_tup, add_ref, add2_lst, tt_and, WL.Q.pe_slice, s_prop, sprop1_ins, notnon_tup, notnon_int, pi_any, WL.Q.pe_fmt, fmtR_some, WL.Q.pe_orT, orR_t, orR_f, tru_non, just8, just2, g_tup4, hH]; (try clear hH))
    unfold edge_table_fb0
    ((try simp only [List.set_cons_zero, List.set_cons_succ, List.eraseIdx_cons_zero, List.eraseIdx_cons_succ, List.cons_append, List.nil_append] at H); have hH := H; (try simp only [has_cons, has_nil, dist_cons, dist_nil, ne_eq, and_true, true_and, List.set_cons_zero, List.set_cons_succ] at hH); simp only [wp_bind, wp_fl, wp_sq, wp_out, wpO_ok, wpO_ex, wpF_nx, wpF_rt, wpF_ex, wpF_bk, wpF_ct, bP_ok, bP_ex, lP_ok, lP_ex, qP_nx, qP_rt, qP_ex, qP_bk, qP_ct, oP_rt, oP_nx, oP_ex, loopP_nx, loopP_ct, loopP_bk, loopP_rt, loopP_ex, tgP_ok, wp_try, tryP_nx, tryP_rt, tryP_ct, tryP_bk, offS_rt, offS_nx, br_t, br_f, e_var0, e_varS, e_c, e_bin, a_nil, a_cons, e_fn, e_tup, asB_bl, t_val, asT_bl, t_tru, t_not, t_and, t_or, e_if, e_and, e_or, e_not, e_chain, e_fld, e_con, e_bm, e_star, WL.Q.pe_lst, pe_dict0, pe_dict0K, pe_meth, meth1_ins, con1_ins, s_seq, s_drop, s_ret, s_if, s_next, s_retN, s_asg, s_for, g_nm, g_sub, s_raise, fn_w, out_rt, out_nx, out_ex, set0, setS, lt_ii, le_ii, gt_ii, ge_ii, sub_ii, add_ii, int_i, eq_ii, ne_ii, sub_ref, sub1_lst, sub1_insF, ixSeq0, ixSeq1, ixSeq2, ixSeq3, sub_tup, set_ref, pset_ek, pset_own, startW, List.map_cons, List.map_nil, List.length_cons, List.length_nil, List.replicate_succ, List.replicate_zero, List.cons_append, List.nil_append, Nat.reduceAdd, Nat.reduceSub, Nat.add_sub_cancel, decide_true, decide_false, Bool.not_true, Bool.not_false, List.length_append, List.set_cons_zero, List.set_cons_succ, Nat.reduceLT, Nat.reduceEqDiff, ↓reduceIte, Nat.zero_ne_one, Nat.one_ne_zero, app_ref, papp1, ty_ref, isL_lst, list_ref, plist1, s_fld, ins_ref, ins1_ins, ps_fld1, putW, fldOf, getW, g_tup2, not_non, not_str, nin_in, in_ref, in1_strs, in1_dT, in1_insF, len_ref1, len1_lst, List.length_map, Nat.zero_add, getD, pe_lc, pi_range1, range1_i, WL.Q.pi_seq, itemsR_ref, items1_lst, itemsR_tup, lenO_ref, lenO1_ins, natC_int, pe_is, isB_some, isR_tup, isR_int, isR_str, isR_bl, isR_non, isR_ref, isR1_lst, isR1_ins, WL.Q.pe_prop, prop1_ins, wp_noX, nP_ok, not_bl, is_non, is_str, is_bl, notnon_bl, isnon_bl, notnon_ref, isnon_ref, is_tg, not_tg, eq_bb, ne_bb, xi, dget_some, psub_ek, list_scr, list_tup, bind_ok, bind_ex, fl_ok, fl_ex, sq_nx, sq_rt, sq_ex, sq_bk, sq_ct, optE_none, optE_some, optI_int, slice_ref, slice1_lst, slice_tup, add_ref, add2_lst, tt_and, WL.Q.pe_slice, s_prop, sprop1_ins, notnon_tup, notnon_int, pi_any, WL.Q.pe_fmt, fmtR_some, WL.Q.pe_orT, orR_t, orR_f, tru_non, just8, just2, g_tup4, hH, jo, hfl]; (try clear hH))
    ((try simp only [List.set_cons_zero, List.set_cons_succ, List.eraseIdx_cons_zero, List.eraseIdx_cons_succ, List.cons_append, List.nil_append] at H); first | refine wp_upd H 0 rfl fun _ H => ?_ | refine wp_upd H 1 rfl fun _ H => ?_ | refine wp_upd H 2 rfl fun _ H => ?_ | refine wp_upd H 3 rfl fun _ H => ?_ | refine wp_upd H 4 rfl fun _ H => ?_ | refine wp_upd H 5 rfl fun _ H => ?_ | refine wp_upd H 6 rfl fun _ H => ?_ | refine wp_upd H 7 rfl fun _ H => ?_ | refine wp_upd H 8 rfl fun _ H => ?_ | refine wp_upd H 9 rfl fun _ H => ?_ | refine wp_upd H 10 rfl fun _ H => ?_ | refine wp_upd H 11 rfl fun _ H => ?_ | refine wp_upd H 12 rfl fun _ H => ?_ | refine wp_upd H 13 rfl fun _ H => ?_ | refine wp_upd H 14 rfl fun _ H => ?_ | refine wp_upd H 15 rfl fun _ H => ?_ | refine wp_upd H 16 rfl fun _ H => ?_ | refine wp_upd H 17 rfl fun _ H => ?_ | refine wp_upd H 18 rfl fun _ H => ?_ | refine wp_upd H 19 rfl fun _ H => ?_)
    ((try simp only [List.set_cons_zero, List.set_cons_succ, List.eraseIdx_cons_zero, List.eraseIdx_cons_succ, List.cons_append, List.nil_append] at H); have hH := H; (try simp only [has_cons, has_nil, dist_cons, dist_nil, ne_eq, and_true, true_and, List.set_cons_zero, List.set_cons_succ] at hH); simp only [wp_bind, wp_fl, wp_sq, wp_out, wpO_ok, wpO_ex, wpF_nx, wpF_rt, wpF_ex, wpF_bk, wpF_ct, bP_ok, bP_ex, lP_ok, lP_ex, qP_nx, qP_rt, qP_ex, qP_bk, qP_ct, oP_rt, oP_nx, oP_ex, loopP_nx, loopP_ct, loopP_bk, loopP_rt, loopP_ex, tgP_ok, wp_try, tryP_nx, tryP_rt, tryP_ct, tryP_bk, offS_rt, offS_nx, br_t, br_f, e_var0, e_varS, e_c, e_bin, a_nil, a_cons, e_fn, e_tup, asB_bl, t_val, asT_bl, t_tru, t_not, t_and, t_or, e_if, e_and, e_or, e_not, e_chain, e_fld, e_con, e_bm, e_star, WL.Q.pe_lst, pe_dict0, pe_dict0K, pe_meth, meth1_ins, con1_ins, s_seq, s_drop, s_ret, s_if, s_next, s_retN, s_asg, s_for, g_nm, g_sub, s_raise, fn_w, out_rt, out_nx, out_ex, set0, setS, lt_ii, le_ii, gt_ii, ge_ii, sub_ii, add_ii, int_i, eq_ii, ne_ii, sub_ref, sub1_lst, sub1_insF, ixSeq0, ixSeq1, ixSeq2, ixSeq3, sub_tup, set_ref, pset_ek, pset_own, startW, List.map_cons, List.map_nil, List.length_cons, List.length_nil, List.replicate_succ, List.replicate_zero, List.cons_append, List.nil_append, Nat.reduceAdd, Nat.reduceSub, Nat.add_sub_cancel, decide_true, decide_false, Bool.not_true, Bool.not_false, List.length_append, List.set_cons_zero, List.set_cons_succ, Nat.reduceLT, Nat.reduceEqDiff, ↓reduceIte, Nat.zero_ne_one, Nat.one_ne_zero, app_ref, papp1, ty_ref, isL_lst, list_ref, plist1, s_fld, ins_ref, ins1_ins, ps_fld1, putW, fldOf, getW, g_tup2, not_non, not_str, nin_in, in_ref, in1_strs, in1_dT, in1_insF, len_ref1, len1_lst, List.length_map, Nat.zero_add, getD, pe_lc, pi_range1, range1_i, WL.Q.pi_seq, itemsR_ref, items1_lst, itemsR_tup, lenO_ref, lenO1_ins, natC_int, pe_is, isB_some, isR_tup, isR_int, isR_str, isR_bl, isR_non, isR_ref, isR1_lst, isR1_ins, WL.Q.pe_prop, prop1_ins, wp_noX, nP_ok, not_bl, is_non, is_str, is_bl, notnon_bl, isnon_bl, notnon_ref, isnon_ref, is_tg, not_tg, eq_bb, ne_bb, xi, dget_some, psub_ek, list_scr, list_tup, bind_ok, bind_ex, fl_ok, fl_ex, sq_nx, sq_rt, sq_ex, sq_bk, sq_ct, optE_none, optE_some, optI_int, slice_ref, slice1_lst, slice_tup, add_ref, add2_lst, tt_and, WL.Q.pe_slice, s_prop, sprop1_ins, notnon_tup, notnon_int, pi_any, WL.Q.pe_fmt, fmtR_some, WL.Q.pe_orT, orR_t, orR_f, tru_non, just8, just2, g_tup4, hH]; (try clear hH))
    rw [htk, List.map_append]
    exact ⟨_, _, _, _, rfl, by simpa [lineW_at] using H⟩
  · obtain ⟨o2, o3, o4, o5, rfl, H⟩ := hI
    dsimp only at H
    rw [List.take_length] at H
    ((try simp only [List.set_cons_zero, List.set_cons_succ, List.eraseIdx_cons_zero, List.eraseIdx_cons_succ, List.cons_append, List.nil_append] at H); have hH := H; (try simp only [has_cons, has_nil, dist_cons, dist_nil, ne_eq, and_true, true_and, List.set_cons_zero, List.set_cons_succ] at hH); simp only [wp_bind, wp_fl, wp_sq, wp_out, wpO_ok, wpO_ex, wpF_nx, wpF_rt, wpF_ex, wpF_bk, wpF_ct, bP_ok, bP_ex, lP_ok, lP_ex, qP_nx, qP_rt, qP_ex, qP_bk, qP_ct, oP_rt, oP_nx, oP_ex, loopP_nx, loopP_ct, loopP_bk, loopP_rt, loopP_ex, tgP_ok, wp_try, tryP_nx, tryP_rt, tryP_ct, tryP_bk, offS_rt, offS_nx, br_t, br_f, e_var0, e_varS, e_c, e_bin, a_nil, a_cons, e_fn, e_tup, asB_bl, t_val, asT_bl, t_tru, t_not, t_and, t_or, e_if, e_and, e_or, e_not, e_chain, e_fld, e_con, e_bm, e_star, WL.Q.pe_lst, pe_dict0, pe_dict0K, pe_meth, meth1_ins, con1_ins, s_seq, s_drop, s_ret, s_if, s_next, s_retN, s_asg, s_for, g_nm, g_sub, s_raise, fn_w, out_rt, out_nx, out_ex, set0, setS, lt_ii, le_ii, gt_ii, ge_ii, sub_ii, add_ii, int_i, eq_ii, ne_ii, sub_ref, sub1_lst, sub1_insF, ixSeq0, ixSeq1, ixSeq2, ixSeq3, sub_tup, set_ref, pset_ek, pset_own, startW, List.map_cons, List.map_nil, List.length_cons, List.length_nil, List.replicate_succ, List.replicate_zero, List.cons_append, List.nil_append, Nat.reduceAdd, Nat.reduceSub, Nat.add_sub_cancel, decide_true, decide_false, Bool.not_true, Bool.not_false, List.length_append, List.set_cons_zero, List.set_cons_succ, Nat.reduceLT, Nat.reduceEqDiff, ↓reduceIte, Nat.zero_ne_one, Nat.one_ne_zero, app_ref, papp1, ty_ref, isL_lst, list_ref, plist1, s_fld, ins_ref, ins1_ins, ps_fld1, putW, fldOf, getW, g_tup2, not_non, not_str, nin_in, in_ref, in1_strs, in1_dT, in1_insF, len_ref1, len1_lst, List.length_map, Nat.zero_add, getD, pe_lc, pi_range1, range1_i, WL.Q.pi_seq, itemsR_ref, items1_lst, itemsR_tup, lenO_ref, lenO1_ins, natC_int, pe_is, isB_some, isR_tup, isR_int, isR_str, isR_bl, isR_non, isR_ref, isR1_lst, isR1_ins, WL.Q.pe_prop, prop1_ins, wp_noX, nP_ok, not_bl, is_non, is_str, is_bl, notnon_bl, isnon_bl, notnon_ref, isnon_ref, is_tg, not_tg, eq_bb, ne_bb, xi, dget_some, psub_ek, list_scr, list_tup, bind_ok, bind_ex, fl_ok, fl_ex, sq_nx, sq_rt, sq_ex, sq_bk, sq_ct, optE_none, optE_some, optI_int, slice_ref, slice1_lst, slice_tup, add_ref, add2_lst, tt_and, WL.Q.pe_slice, s_prop, sprop1_ins, notnon_tup, notnon_int, pi_any, WL.Q.pe_fmt, fmtR_some, WL.Q.pe_orT, orR_t, orR_f, tru_non, just8, just2, g_tup4, hH, edge_table_r1]; (try clear hH))
    exact k _ _ H.2.2
def dueCell (names acts : List Str) (k j : Nat) : Cell → Option W
  | none => none
  | some (a, t) => some (.str (lineS (nth names k) j (nth acts a) (tgS (tgOf names t))))
def dueRow (names acts : List Str) (rows : List (List Cell)) (wide k : Nat) : List W := (List.range wide).filterMap fun j => dueCell names acts k j (cellAt rows k j)
def dueL (names acts : List Str) (rows : List (List Cell)) (wide : Nat) (ord : List Nat) : List W := ord.flatMap (dueRow names acts rows wide)
theorem filt_map {α : Type} {p : α → Bool} {f : α → W} {h : α → Option W} {φ : W → W} : ∀ l : List α, (∀ j ∈ l, h j = if p j then some (φ (f j)) else none) → ((l.filter p).map f).map φ = l.filterMap h
  | [], _ => rfl
  | a :: l, e => by
    have ih := filt_map (p := p) (f := f) (h := h) (φ := φ) l fun j hj => e j (List.mem_cons_of_mem _ hj)
    have ea := e a List.mem_cons_self
    rw [List.filterMap_cons, ea]
    by_cases hp : p a = true
    · rw [List.filter_cons, if_pos hp, if_pos hp, List.map_cons, List.map_cons, ih]
    · rw [List.filter_cons, if_neg hp, if_neg hp, ih]
theorem due_eq {names acts : List Str} {count wide : Nat} {rows : List (List Cell)} {edges : List (List Key × W)} (h : Holds names acts count rows (fun _ _ => True) edges) {ord : List Nat} (ho : ∀ k ∈ ord, k < count) : (edgesL wide (ord.map (nth names)) edges).map lineW = dueL names acts rows wide ord := by
  unfold edgesL dueL
  rw [List.flatMap_map, List.map_flatMap]
  have : ∀ k ∈ ord, (outE wide edges (nth names k)).map lineW = dueRow names acts rows wide k := fun k hk => by
    unfold outE dueRow
    refine filt_map (List.range wide) fun j _ => ?_
    have e := (h k j (ho k hk)).1 trivial
    unfold edgeW
    rw [e]
    cases cellAt rows k j with
    | none => rfl
    | some p =>
      obtain ⟨a, t⟩ := p
      show some _ = some _
      congr 1
      exact lineW_at.symm
  induction ord with
  | nil => rfl
  | cons k ord ih =>
    rw [List.flatMap_cons, List.flatMap_cons, this k List.mem_cons_self, ih (fun j hj => ho j (List.mem_cons_of_mem _ hj)) fun j hj => this j (List.mem_cons_of_mem _ hj)]
theorem dueRow_len {names acts : List Str} {rows : List (List Cell)} {wide k : Nat} : (dueRow names acts rows wide k).length ≤ wide := by
  unfold dueRow
  exact Nat.le_trans (List.length_filterMap_le _ _) (by simp)
theorem dueL_len {names acts : List Str} {rows : List (List Cell)} {wide : Nat} : ∀ ord : List Nat, (dueL names acts rows wide ord).length ≤ ord.length * wide
  | [] => by simp [dueL]
  | k :: ord => by
    have h1 := dueL_len (names := names) (acts := acts) (rows := rows) (wide := wide) ord
    have h2 := dueRow_len (names := names) (acts := acts) (rows := rows) (wide := wide) (k := k)
    unfold dueL at h1 ⊢
    rw [List.flatMap_cons, List.length_append, List.length_cons, Nat.add_mul, Nat.one_mul]
    omega
/-- the sizes of a line's pieces -/
structure Pcs (A B C T : Str) : Prop where
  a : fits A.length = true
  s : fits (" " : Str).length = true
  a1 : fits (A ++ " ").length = true
  b : fits B.length = true
  a2 : fits (A ++ " " ++ B).length = true
  a3 : fits (A ++ " " ++ B ++ " ").length = true
  c : fits C.length = true
  a4 : fits (A ++ " " ++ B ++ " " ++ C).length = true
  a5 : fits (A ++ " " ++ B ++ " " ++ C ++ " ").length = true
  t : fits T.length = true
theorem Pcs.mk' {s n : Str} {k : Nat} {t : Option Str} (hs : Nm s) (hn : Nm n) (hk : k < 4) (ht : TgOk t) : Pcs (Txt.ljust s 8) (Txt.rjust (toString ((k : Nat) : Int)) 2) (Txt.ljust n 8) (tgS t) := by
  have h1 := ljust8_len hs
  have h2 := ljust8_len hn
  have h3 := rjust2_len hk
  have h4 := tgS_len ht
  have h5 := sp_len
  refine ⟨?_, ?_, ?_, ?_, ?_, ?_, ?_, ?_, ?_, ?_⟩ <;> refine fits_of ?_ <;> (try simp only [str_len_app]) <;> omega
theorem etgS {names : List Str} {count a : Nat} {t : Int} (hnl : count ≤ names.length) (hc : CellOk count (some (a, t))) (g : G) : br (decide (0 ≤ t)) (ixSeq (names.map W.str) (.int t) g) (Out.ok (.str ".") g) = Out.ok (.str (tgS (tgOf names t))) g := by
  unfold tgOf
  by_cases h : 0 ≤ t
  · obtain ⟨tn, rfl⟩ : ∃ tn : Nat, t = tn := ⟨t.toNat, by omega⟩
    have := hc.2.2
    rw [decide_eq_true h, br_t, ix_nth (by omega), if_pos h]
    rfl
  · rw [decide_eq_false h, br_f, if_neg h]
    rfl
theorem row_eq {row : List Cell} : some (rowW row) = some (GO.lst (row.map cellW)) := rfl
theorem due_step {g : G} {S : List (Nat × GO)} {ir off lr lN lA iN iA lx count wide k j r : Nat} {refs : List Nat} {rows : List (List Cell)} {row : List Cell} {cell : Cell} {names acts : List Str} {acc : List W} {o6 o7 : Option W} {P : Fl → Prop}
    (R : RowsIn S ir off lr refs rows) (hr1 : refs[k]? = some r) (hr2 : S[off + k]? = some (r, rowW row)) (hcell : row[j]? = some cell) (hcok : CellOk count cell) (hNi : S[iN]? = some (lN, GO.lst (names.map W.str))) (hAi : S[iA]? = some (lA, GO.lst (acts.map W.str)))
    (hN : ∀ s ∈ names, Nm s) (hnl : count ≤ names.length) (hA : ∀ s ∈ acts, Nm s) (hal : 4 ≤ acts.length) (hk : k < count) (hj : j < 4) (hacc : acc.length ≤ 1000)
    (H : Has g ((lx, GO.lst acc) :: S))
    (kk : ∀ o6 o7 g', Has g' ((lx, GO.lst (acc ++ (dueCell names acts k j cell).toList)) :: S) → P (.nx [some (.ref lr), some (.ref lN), some (.ref lA), some (.ref lx), some (.int (k : Nat)), some (.int (j : Nat)), o6, o7] g')) :
    wpF (due_fb0 [some (.ref lr), some (.ref lN), some (.ref lA), some (.ref lx), some (.int (k : Nat)), some (.int (j : Nat)), o6, o7] g) P := by
  unfold due_fb0
  cases cell with
  | none =>
    ((try simp only [List.set_cons_zero, List.set_cons_succ, List.eraseIdx_cons_zero, List.eraseIdx_cons_succ, List.cons_append, List.nil_append] at H); have hH := H; (try simp only [has_cons, has_nil, dist_cons, dist_nil, ne_eq, and_true, true_and, List.set_cons_zero, List.set_cons_succ] at hH); simp only [wp_bind, wp_fl, wp_sq, wp_out, wpO_ok, wpO_ex, wpF_nx, wpF_rt, wpF_ex, wpF_bk, wpF_ct, bP_ok, bP_ex, lP_ok, lP_ex, qP_nx, qP_rt, qP_ex, qP_bk, qP_ct, oP_rt, oP_nx, oP_ex, loopP_nx, loopP_ct, loopP_bk, loopP_rt, loopP_ex, tgP_ok, wp_try, tryP_nx, tryP_rt, tryP_ct, tryP_bk, offS_rt, offS_nx, br_t, br_f, e_var0, e_varS, e_c, e_bin, a_nil, a_cons, e_fn, e_tup, asB_bl, t_val, asT_bl, t_tru, t_not, t_and, t_or, e_if, e_and, e_or, e_not, e_chain, e_fld, e_con, e_bm, e_star, WL.Q.pe_lst, pe_dict0, pe_dict0K, pe_meth, meth1_ins, con1_ins, s_seq, s_drop, s_ret, s_if, s_next, s_retN, s_asg, s_for, g_nm, g_sub, s_raise, fn_w, out_rt, out_nx, out_ex, set0, setS, lt_ii, le_ii, gt_ii, ge_ii, sub_ii, add_ii, int_i, eq_ii, ne_ii, sub_ref, sub1_lst, sub1_insF, ixSeq0, ixSeq1, ixSeq2, ixSeq3, sub_tup, set_ref, pset_ek, pset_own, startW, List.map_cons, List.map_nil, List.length_cons, List.length_nil, List.replicate_succ, List.replicate_zero, List.cons_append, List.nil_append, Nat.reduceAdd, Nat.reduceSub, Nat.add_sub_cancel, decide_true, decide_false, Bool.not_true, Bool.not_false, List.length_append, List.set_cons_zero, List.set_cons_succ, Nat.reduceLT, Nat.reduceEqDiff, ↓reduceIte, Nat.zero_ne_one, Nat.one_ne_zero, app_ref, papp1, ty_ref, isL_lst, list_ref, plist1, s_fld, ins_ref, ins1_ins, ps_fld1, putW, fldOf, getW, g_tup2, not_non, not_str, nin_in, in_ref, in1_strs, in1_dT, in1_insF, len_ref1, len1_lst, List.length_map, Nat.zero_add, getD, pe_lc, pi_range1, range1_i, WL.Q.pi_seq, itemsR_ref, items1_lst, itemsR_tup, lenO_ref, lenO1_ins, natC_int, pe_is, isB_some, isR_tup, isR_int, isR_str, isR_bl, isR_non, isR_ref, isR1_lst, isR1_ins, WL.Q.pe_prop, prop1_ins, wp_noX, nP_ok, not_bl, is_non, is_str, is_bl, notnon_bl, isnon_bl, notnon_ref, isnon_ref, is_tg, not_tg, eq_bb, ne_bb, xi, dget_some, psub_ek, list_scr, list_tup, bind_ok, bind_ex, fl_ok, fl_ex, sq_nx, sq_rt, sq_ex, sq_bk, sq_ct, optE_none, optE_some, optI_int, slice_ref, slice1_lst, slice_tup, add_ref, add2_lst, tt_and, WL.Q.pe_slice, s_prop, sprop1_ins, notnon_tup, notnon_int, pi_any, WL.Q.pe_fmt, fmtR_some, WL.Q.pe_orT, orR_t, orR_f, tru_non, just8, just2, g_tup4, hH, H.2.2.get R.hr, ix_refs hr1, (H.2.2.get hr2).trans row_eq, ix_cell hcell, cellW]; (try clear hH))
    exact kk _ _ _ (by simpa [dueCell] using H)
  | some p =>
    obtain ⟨a, t⟩ := p
    have ha : a < acts.length := Nat.lt_of_lt_of_le hcok.1 hal
    have hnm : Nm (nth names k) := hN _ (nth_mem (by omega))
    have ham : Nm (nth acts a) := hA _ (nth_mem ha)
    have pc := Pcs.mk' hnm ham hj (tgOf_ok hN hnl hcok)
    ((try simp only [List.set_cons_zero, List.set_cons_succ, List.eraseIdx_cons_zero, List.eraseIdx_cons_succ, List.cons_append, List.nil_append] at H); have hH := H; (try simp only [has_cons, has_nil, dist_cons, dist_nil, ne_eq, and_true, true_and, List.set_cons_zero, List.set_cons_succ] at hH); simp only [wp_bind, wp_fl, wp_sq, wp_out, wpO_ok, wpO_ex, wpF_nx, wpF_rt, wpF_ex, wpF_bk, wpF_ct, bP_ok, bP_ex, lP_ok, lP_ex, qP_nx, qP_rt, qP_ex, qP_bk, qP_ct, oP_rt, oP_nx, oP_ex, loopP_nx, loopP_ct, loopP_bk, loopP_rt, loopP_ex, tgP_ok, wp_try, tryP_nx, tryP_rt, tryP_ct, tryP_bk, offS_rt, offS_nx, br_t, br_f, e_var0, e_varS, e_c, e_bin, a_nil, a_cons, e_fn, e_tup, asB_bl, t_val, asT_bl, t_tru, t_not, t_and, t_or, e_if, e_and, e_or, e_not, e_chain, e_fld, e_con, e_bm, e_star, WL.Q.pe_lst, pe_dict0, pe_dict0K, pe_meth, meth1_ins, con1_ins, s_seq, s_drop, s_ret, s_if, s_next, s_retN, s_asg, s_for, g_nm, g_sub, s_raise, fn_w, out_rt, out_nx, out_ex, set0, setS, lt_ii, le_ii, gt_ii, ge_ii, sub_ii, add_ii, int_i, eq_ii, ne_ii, sub_ref, sub1_lst, sub1_insF, ixSeq0, ixSeq1, ixSeq2, ixSeq3, sub_tup, set_ref, pset_ek, pset_own, startW, List.map_cons, List.map_nil, List.length_cons, List.length_nil, List.replicate_succ, List.replicate_zero, List.cons_append, List.nil_append, Nat.reduceAdd, Nat.reduceSub, Nat.add_sub_cancel, decide_true, decide_false, Bool.not_true, Bool.not_false, List.length_append, List.set_cons_zero, List.set_cons_succ, Nat.reduceLT, Nat.reduceEqDiff, ↓reduceIte, Nat.zero_ne_one, Nat.one_ne_zero, app_ref, papp1, ty_ref, isL_lst, list_ref, plist1, s_fld, ins_ref, ins1_ins, ps_fld1, putW, fldOf, getW, g_tup2, not_non, not_str, nin_in, in_ref, in1_strs, in1_dT, in1_insF, len_ref1, len1_lst, List.length_map, Nat.zero_add, getD, pe_lc, pi_range1, range1_i, WL.Q.pi_seq, itemsR_ref, items1_lst, itemsR_tup, lenO_ref, lenO1_ins, natC_int, pe_is, isB_some, isR_tup, isR_int, isR_str, isR_bl, isR_non, isR_ref, isR1_lst, isR1_ins, WL.Q.pe_prop, prop1_ins, wp_noX, nP_ok, not_bl, is_non, is_str, is_bl, notnon_bl, isnon_bl, notnon_ref, isnon_ref, is_tg, not_tg, eq_bb, ne_bb, xi, dget_some, psub_ek, list_scr, list_tup, bind_ok, bind_ex, fl_ok, fl_ex, sq_nx, sq_rt, sq_ex, sq_bk, sq_ct, optE_none, optE_some, optI_int, slice_ref, slice1_lst, slice_tup, add_ref, add2_lst, tt_and, WL.Q.pe_slice, s_prop, sprop1_ins, notnon_tup, notnon_int, pi_any, WL.Q.pe_fmt, fmtR_some, WL.Q.pe_orT, orR_t, orR_f, tru_non, just8, just2, g_tup4, hH, H.2.2.get R.hr, ix_refs hr1, (H.2.2.get hr2).trans row_eq, ix_cell hcell, cellW, H.2.2.get hNi, ix_nth (show k < names.length by omega), ty_str, str_nat (show j ≤ 1000 by omega), add_str, pc.a, pc.s, pc.a1, pc.b, pc.a2, pc.a3, pc.c, pc.a4, pc.a5, pc.t, H.2.2.get hAi, ix_nth ha, etgS hnl hcok, fits_of (show acc.length ≤ 1000000 by omega)]; (try clear hH))
    ((try simp only [List.set_cons_zero, List.set_cons_succ, List.eraseIdx_cons_zero, List.eraseIdx_cons_succ, List.cons_append, List.nil_append] at H); first | refine wp_upd H 0 rfl fun _ H => ?_ | refine wp_upd H 1 rfl fun _ H => ?_ | refine wp_upd H 2 rfl fun _ H => ?_ | refine wp_upd H 3 rfl fun _ H => ?_ | refine wp_upd H 4 rfl fun _ H => ?_ | refine wp_upd H 5 rfl fun _ H => ?_ | refine wp_upd H 6 rfl fun _ H => ?_ | refine wp_upd H 7 rfl fun _ H => ?_ | refine wp_upd H 8 rfl fun _ H => ?_ | refine wp_upd H 9 rfl fun _ H => ?_ | refine wp_upd H 10 rfl fun _ H => ?_ | refine wp_upd H 11 rfl fun _ H => ?_ | refine wp_upd H 12 rfl fun _ H => ?_ | refine wp_upd H 13 rfl fun _ H => ?_ | refine wp_upd H 14 rfl fun _ H => ?_ | refine wp_upd H 15 rfl fun _ H => ?_ | refine wp_upd H 16 rfl fun _ H => ?_ | refine wp_upd H 17 rfl fun _ H => ?_ | refine wp_upd H 18 rfl fun _ H => ?_ | refine wp_upd H 19 rfl fun _ H => ?_)
    ((try simp only [List.set_cons_zero, List.set_cons_succ, List.eraseIdx_cons_zero, List.eraseIdx_cons_succ, List.cons_append, List.nil_append] at H); have hH := H; (try simp only [has_cons, has_nil, dist_cons, dist_nil, ne_eq, and_true, true_and, List.set_cons_zero, List.set_cons_succ] at hH); simp only [wp_bind, wp_fl, wp_sq, wp_out, wpO_ok, wpO_ex, wpF_nx, wpF_rt, wpF_ex, wpF_bk, wpF_ct, bP_ok, bP_ex, lP_ok, lP_ex, qP_nx, qP_rt, qP_ex, qP_bk, qP_ct, oP_rt, oP_nx, oP_ex, loopP_nx, loopP_ct, loopP_bk, loopP_rt, loopP_ex, tgP_ok, wp_try, tryP_nx, tryP_rt, tryP_ct, tryP_bk, offS_rt, offS_nx, br_t, br_f, e_var0, e_varS, e_c, e_bin, a_nil, a_cons, e_fn, e_tup, asB_bl, t_val, asT_bl, t_tru, t_not, t_and, t_or, e_if, e_and, e_or, e_not, e_chain, e_fld, e_con, e_bm, e_star, WL.Q.pe_lst, pe_dict0, pe_dict0K, pe_meth, meth1_ins, con1_ins, s_seq, s_drop, s_ret, s_if, s_next, s_retN, s_asg, s_for, g_nm, g_sub, s_raise, fn_w, out_rt, out_nx, out_ex, set0, setS, lt_ii, le_ii, gt_ii, ge_ii, sub_ii, add_ii, int_i, eq_ii, ne_ii, sub_ref, sub1_lst, sub1_insF, ixSeq0, ixSeq1, ixSeq2, ixSeq3, sub_tup, set_ref, pset_ek, pset_own, startW, List.map_cons, List.map_nil, List.length_cons, List.length_nil, List.replicate_succ, List.replicate_zero, List.cons_append, List.nil_append, Nat.reduceAdd, Nat.reduceSub, Nat.add_sub_cancel, decide_true, decide_false, Bool.not_true, Bool.not_false, List.length_append, List.set_cons_zero, List.set_cons_succ, Nat.reduceLT, Nat.reduceEqDiff, ↓reduceIte, Nat.zero_ne_one, Nat.one_ne_zero, app_ref, papp1, ty_ref, isL_lst, list_ref, plist1, s_fld, ins_ref, ins1_ins, ps_fld1, putW, fldOf, getW, g_tup2, not_non, not_str, nin_in, in_ref, in1_strs, in1_dT, in1_insF, len_ref1, len1_lst, List.length_map, Nat.zero_add, getD, pe_lc, pi_range1, range1_i, WL.Q.pi_seq, itemsR_ref, items1_lst, itemsR_tup, lenO_ref, lenO1_ins, natC_int, pe_is, isB_some, isR_tup, isR_int, isR_str, isR_bl, isR_non, isR_ref, isR1_lst, isR1_ins, WL.Q.pe_prop, prop1_ins, wp_noX, nP_ok, not_bl, is_non, is_str, is_bl, notnon_bl, isnon_bl, notnon_ref, isnon_ref, is_tg, not_tg, eq_bb, ne_bb, xi, dget_some, psub_ek, list_scr, list_tup, bind_ok, bind_ex, fl_ok, fl_ex, sq_nx, sq_rt, sq_ex, sq_bk, sq_ct, optE_none, optE_some, optI_int, slice_ref, slice1_lst, slice_tup, add_ref, add2_lst, tt_and, WL.Q.pe_slice, s_prop, sprop1_ins, notnon_tup, notnon_int, pi_any, WL.Q.pe_fmt, fmtR_some, WL.Q.pe_orT, orR_t, orR_f, tru_non, just8, just2, g_tup4, hH]; (try clear hH))
    exact kk _ _ _ (by simpa [dueCell, lineS] using H)
theorem sp_due {g : G} {S : List (Nat × GO)} {ir off lr lN lA iN iA count wide : Nat} {refs : List Nat} {rows : List (List Cell)} {names acts : List Str} {P : Out W → Prop}
    (H : Has g S) (R : RowsIn S ir off lr refs rows) (ok : RowsOk count wide rows) (hNi : S[iN]? = some (lN, GO.lst (names.map W.str))) (hAi : S[iA]? = some (lA, GO.lst (acts.map W.str)))
    (hN : ∀ s ∈ names, Nm s) (hnl : count ≤ names.length) (hA : ∀ s ∈ acts, Nm s) (hal : 4 ≤ acts.length) (hc1 : 1 ≤ count) (hc2 : count ≤ 16) (hw2 : wide ≤ 4)
    (k : ∀ l g', Has g' ((l, GO.lst (dueL names acts rows wide (ordN rows count))) :: S) → P (.ok (.ref l) g')) : wpO (F_due [.ref lr, .ref lN, .ref lA] g) P := by
  have ordok := OrdOk.all ok hc1 count (Nat.le_refl _)
  have hol := ordok.len
  show wpO (f_due [.ref lr, .ref lN, .ref lA] g) P
  unfold f_due m_due
  ((try simp only [List.set_cons_zero, List.set_cons_succ, List.eraseIdx_cons_zero, List.eraseIdx_cons_succ, List.cons_append, List.nil_append] at H); have hH := H; (try simp only [has_cons, has_nil, dist_cons, dist_nil, ne_eq, and_true, true_and, List.set_cons_zero, List.set_cons_succ] at hH); simp only [wp_bind, wp_fl, wp_sq, wp_out, wpO_ok, wpO_ex, wpF_nx, wpF_rt, wpF_ex, wpF_bk, wpF_ct, bP_ok, bP_ex, lP_ok, lP_ex, qP_nx, qP_rt, qP_ex, qP_bk, qP_ct, oP_rt, oP_nx, oP_ex, loopP_nx, loopP_ct, loopP_bk, loopP_rt, loopP_ex, tgP_ok, wp_try, tryP_nx, tryP_rt, tryP_ct, tryP_bk, offS_rt, offS_nx, br_t, br_f, e_var0, e_varS, e_c, e_bin, a_nil, a_cons, e_fn, e_tup, asB_bl, t_val, asT_bl, t_tru, t_not, t_and, t_or, e_if, e_and, e_or, e_not, e_chain, e_fld, e_con, e_bm, e_star, WL.Q.pe_lst, pe_dict0, pe_dict0K, pe_meth, meth1_ins, con1_ins, s_seq, s_drop, s_ret, s_if, s_next, s_retN, s_asg, s_for, g_nm, g_sub, s_raise, fn_w, out_rt, out_nx, out_ex, set0, setS, lt_ii, le_ii, gt_ii, ge_ii, sub_ii, add_ii, int_i, eq_ii, ne_ii, sub_ref, sub1_lst, sub1_insF, ixSeq0, ixSeq1, ixSeq2, ixSeq3, sub_tup, set_ref, pset_ek, pset_own, startW, List.map_cons, List.map_nil, List.length_cons, List.length_nil, List.replicate_succ, List.replicate_zero, List.cons_append, List.nil_append, Nat.reduceAdd, Nat.reduceSub, Nat.add_sub_cancel, decide_true, decide_false, Bool.not_true, Bool.not_false, List.length_append, List.set_cons_zero, List.set_cons_succ, Nat.reduceLT, Nat.reduceEqDiff, ↓reduceIte, Nat.zero_ne_one, Nat.one_ne_zero, app_ref, papp1, ty_ref, isL_lst, list_ref, plist1, s_fld, ins_ref, ins1_ins, ps_fld1, putW, fldOf, getW, g_tup2, not_non, not_str, nin_in, in_ref, in1_strs, in1_dT, in1_insF, len_ref1, len1_lst, List.length_map, Nat.zero_add, getD, pe_lc, pi_range1, range1_i, WL.Q.pi_seq, itemsR_ref, items1_lst, itemsR_tup, lenO_ref, lenO1_ins, natC_int, pe_is, isB_some, isR_tup, isR_int, isR_str, isR_bl, isR_non, isR_ref, isR1_lst, isR1_ins, WL.Q.pe_prop, prop1_ins, wp_noX, nP_ok, not_bl, is_non, is_str, is_bl, notnon_bl, isnon_bl, notnon_ref, isnon_ref, is_tg, not_tg, eq_bb, ne_bb, xi, dget_some, psub_ek, list_scr, list_tup, bind_ok, bind_ex, fl_ok, fl_ex, sq_nx, sq_rt, sq_ex, sq_bk, sq_ct, optE_none, optE_some, optI_int, slice_ref, slice1_lst, slice_tup, add_ref, add2_lst, tt_and, WL.Q.pe_slice, s_prop, sprop1_ins, notnon_tup, notnon_int, pi_any, WL.Q.pe_fmt, fmtR_some, WL.Q.pe_orT, orR_t, orR_f, tru_non, just8, just2, g_tup4, hH, show fits 0 = true from rfl]; (try clear hH))
  refine wp_alloc H fun lx g H => ?_
  ((try simp only [List.set_cons_zero, List.set_cons_succ, List.eraseIdx_cons_zero, List.eraseIdx_cons_succ, List.cons_append, List.nil_append] at H); have hH := H; (try simp only [has_cons, has_nil, dist_cons, dist_nil, ne_eq, and_true, true_and, List.set_cons_zero, List.set_cons_succ] at hH); simp only [wp_bind, wp_fl, wp_sq, wp_out, wpO_ok, wpO_ex, wpF_nx, wpF_rt, wpF_ex, wpF_bk, wpF_ct, bP_ok, bP_ex, lP_ok, lP_ex, qP_nx, qP_rt, qP_ex, qP_bk, qP_ct, oP_rt, oP_nx, oP_ex, loopP_nx, loopP_ct, loopP_bk, loopP_rt, loopP_ex, tgP_ok, wp_try, tryP_nx, tryP_rt, tryP_ct, tryP_bk, offS_rt, offS_nx, br_t, br_f, e_var0, e_varS, e_c, e_bin, a_nil, a_cons, e_fn, e_tup, asB_bl, t_val, asT_bl, t_tru, t_not, t_and, t_or, e_if, e_and, e_or, e_not, e_chain, e_fld, e_con, e_bm, e_star, WL.Q.pe_lst, pe_dict0, pe_dict0K, pe_meth, meth1_ins, con1_ins, s_seq, s_drop, s_ret, s_if, s_next, s_retN, s_asg, s_for, g_nm, g_sub, s_raise, fn_w, out_rt, out_nx, out_ex, set0, setS, lt_ii, le_ii, gt_ii, ge_ii, sub_ii, add_ii, int_i, eq_ii, ne_ii, sub_ref, sub1_lst, sub1_insF, ixSeq0, ixSeq1, ixSeq2, ixSeq3, sub_tup, set_ref, pset_ek, pset_own, startW, List.map_cons, List.map_nil, List.length_cons, List.length_nil, List.replicate_succ, List.replicate_zero, List.cons_append, List.nil_append, Nat.reduceAdd, Nat.reduceSub, Nat.add_sub_cancel, decide_true, decide_false, Bool.not_true, Bool.not_false, List.length_append, List.set_cons_zero, List.set_cons_succ, Nat.reduceLT, Nat.reduceEqDiff, ↓reduceIte, Nat.zero_ne_one, Nat.one_ne_zero, app_ref, papp1, ty_ref, isL_lst, list_ref, plist1, s_fld, ins_ref, ins1_ins, ps_fld1, putW, fldOf, getW, g_tup2, not_non, not_str, nin_in, in_ref, in1_strs, in1_dT, in1_insF, len_ref1, len1_lst, List.length_map, Nat.zero_add, getD, pe_lc, pi_range1, range1_i, WL.Q.pi_seq, itemsR_ref, items1_lst, itemsR_tup, lenO_ref, lenO1_ins, natC_int, pe_is, isB_some, isR_tup, isR_int, isR_str, isR_bl, isR_non, isR_ref, isR1_lst, isR1_ins, WL.Q.pe_prop, prop1_ins, wp_noX, nP_ok, not_bl, is_non, is_str, is_bl, notnon_bl, isnon_bl, notnon_ref, isnon_ref, is_tg, not_tg, eq_bb, ne_bb, xi, dget_some, psub_ek, list_scr, list_tup, bind_ok, bind_ex, fl_ok, fl_ex, sq_nx, sq_rt, sq_ex, sq_bk, sq_ct, optE_none, optE_some, optI_int, slice_ref, slice1_lst, slice_tup, add_ref, add2_lst, tt_and, WL.Q.pe_slice, s_prop, sprop1_ins, notnon_tup, notnon_int, pi_any, WL.Q.pe_fmt, fmtR_some, WL.Q.pe_orT, orR_t, orR_f, tru_non, just8, just2, g_tup4, hH]; (try clear hH))
  refine sp_order H R.cons ok hc1 (by omega) fun lo g H => ?_
  ((try simp only [List.set_cons_zero, List.set_cons_succ, List.eraseIdx_cons_zero, List.eraseIdx_cons_succ, List.cons_append, List.nil_append] at H); have hH := H; (try simp only [has_cons, has_nil, dist_cons, dist_nil, ne_eq, and_true, true_and, List.set_cons_zero, List.set_cons_succ] at hH); simp only [wp_bind, wp_fl, wp_sq, wp_out, wpO_ok, wpO_ex, wpF_nx, wpF_rt, wpF_ex, wpF_bk, wpF_ct, bP_ok, bP_ex, lP_ok, lP_ex, qP_nx, qP_rt, qP_ex, qP_bk, qP_ct, oP_rt, oP_nx, oP_ex, loopP_nx, loopP_ct, loopP_bk, loopP_rt, loopP_ex, tgP_ok, wp_try, tryP_nx, tryP_rt, tryP_ct, tryP_bk, offS_rt, offS_nx, br_t, br_f, e_var0, e_varS, e_c, e_bin, a_nil, a_cons, e_fn, e_tup, asB_bl, t_val, asT_bl, t_tru, t_not, t_and, t_or, e_if, e_and, e_or, e_not, e_chain, e_fld, e_con, e_bm, e_star, WL.Q.pe_lst, pe_dict0, pe_dict0K, pe_meth, meth1_ins, con1_ins, s_seq, s_drop, s_ret, s_if, s_next, s_retN, s_asg, s_for, g_nm, g_sub, s_raise, fn_w, out_rt, out_nx, out_ex, set0, setS, lt_ii, le_ii, gt_ii, ge_ii, sub_ii, add_ii, int_i, eq_ii, ne_ii, sub_ref, sub1_lst, sub1_insF, ixSeq0, ixSeq1, ixSeq2, ixSeq3, sub_tup, set_ref, pset_ek, pset_own, startW, List.map_cons, List.map_nil, List.length_cons, List.length_nil, List.replicate_succ, List.replicate_zero, List.cons_append, List.nil_append, Nat.reduceAdd, Nat.reduceSub, Nat.add_sub_cancel, decide_true, decide_false, Bool.not_true, Bool.not_false, List.length_append, List.set_cons_zero, List.set_cons_succ, Nat.reduceLT, Nat.reduceEqDiff, ↓reduceIte, Nat.zero_ne_one, Nat.one_ne_zero, app_ref, papp1, ty_ref, isL_lst, list_ref, plist1, s_fld, ins_ref, ins1_ins, ps_fld1, putW, fldOf, getW, g_tup2, not_non, not_str, nin_in, in_ref, in1_strs, in1_dT, in1_insF, len_ref1, len1_lst, List.length_map, Nat.zero_add, getD, pe_lc, pi_range1, range1_i, WL.Q.pi_seq, itemsR_ref, items1_lst, itemsR_tup, lenO_ref, lenO1_ins, natC_int, pe_is, isB_some, isR_tup, isR_int, isR_str, isR_bl, isR_non, isR_ref, isR1_lst, isR1_ins, WL.Q.pe_prop, prop1_ins, wp_noX, nP_ok, not_bl, is_non, is_str, is_bl, notnon_bl, isnon_bl, notnon_ref, isnon_ref, is_tg, not_tg, eq_bb, ne_bb, xi, dget_some, psub_ek, list_scr, list_tup, bind_ok, bind_ex, fl_ok, fl_ex, sq_nx, sq_rt, sq_ex, sq_bk, sq_ct, optE_none, optE_some, optI_int, slice_ref, slice1_lst, slice_tup, add_ref, add2_lst, tt_and, WL.Q.pe_slice, s_prop, sprop1_ins, notnon_tup, notnon_int, pi_any, WL.Q.pe_fmt, fmtR_some, WL.Q.pe_orT, orR_t, orR_f, tru_non, just8, just2, g_tup4, hH]; (try clear hH))
  have F : ∀ {g : G} {x y : Nat × GO}, Has g (x :: y :: S) → Has g S := fun h => h.2.2.2.2
  refine wp_for (J := ⟨(ordN rows count).map natW, some lo⟩) (fun i σ g => ∃ o4 o5 o6 o7, σ = [some (.ref lr), some (.ref lN), some (.ref lA), some (.ref lx), o4, o5, o6, o7] ∧ Has g ((lo, GO.lst ((ordN rows count).map natW)) :: (lx, GO.lst (dueL names acts rows wide ((ordN rows count).take i))) :: S)) ⟨_, _, _, _, rfl, H⟩ (fun i σ g hI => ?_) (fun i w σ g hw hI => ?_) (fun σ g hI => ?_)
  · obtain ⟨_, _, _, _, _, H⟩ := hI
    exact decide_eq_true H.1
  · obtain ⟨o4, o5, o6, o7, rfl, H⟩ := hI
    have hw2' : ((ordN rows count).map natW)[i]? = some w := hw
    rw [List.getElem?_map, Option.map_eq_some_iff] at hw2'
    cases hw2' with
    | intro n hn2 =>
    have hni := hn2.1
    have hwe := hn2.2
    clear hn2
    subst hwe
    have hnc : n < count := ordok.lt n (List.mem_of_getElem? hni)
    have htk : (ordN rows count).take (i + 1) = (ordN rows count).take i ++ [n] := by rw [List.take_add_one, hni]; rfl
    have hnl2 : n < rows.length := by rw [ok.len]; exact hnc
    have hrow := List.getElem?_eq_getElem hnl2
    have hwid : (rows[n]).length = wide := ok.wid _ (List.getElem_mem hnl2)
    generalize rows[n] = row at hrow hwid
    have hrr := R.ref hrow
    cases hrr with
    | intro r hrr2 =>
    have hr1 := hrr2.1
    have hr2 := hrr2.2
    clear hrr2
    have dl := dueL_len (names := names) (acts := acts) (rows := rows) (wide := wide) ((ordN rows count).take i)
    have tl : ((ordN rows count).take i).length ≤ 16 := Nat.le_trans (List.length_take_le' _ _) (by omega)
    have dl2 : (dueL names acts rows wide ((ordN rows count).take i)).length ≤ 64 := Nat.le_trans dl (Nat.le_trans (Nat.mul_le_mul tl hw2) (by decide))
    unfold due_fb1
    ((try simp only [List.set_cons_zero, List.set_cons_succ, List.eraseIdx_cons_zero, List.eraseIdx_cons_succ, List.cons_append, List.nil_append] at H); have hH := H; (try simp only [has_cons, has_nil, dist_cons, dist_nil, ne_eq, and_true, true_and, List.set_cons_zero, List.set_cons_succ] at hH); simp only [wp_bind, wp_fl, wp_sq, wp_out, wpO_ok, wpO_ex, wpF_nx, wpF_rt, wpF_ex, wpF_bk, wpF_ct, bP_ok, bP_ex, lP_ok, lP_ex, qP_nx, qP_rt, qP_ex, qP_bk, qP_ct, oP_rt, oP_nx, oP_ex, loopP_nx, loopP_ct, loopP_bk, loopP_rt, loopP_ex, tgP_ok, wp_try, tryP_nx, tryP_rt, tryP_ct, tryP_bk, offS_rt, offS_nx, br_t, br_f, e_var0, e_varS, e_c, e_bin, a_nil, a_cons, e_fn, e_tup, asB_bl, t_val, asT_bl, t_tru, t_not, t_and, t_or, e_if, e_and, e_or, e_not, e_chain, e_fld, e_con, e_bm, e_star, WL.Q.pe_lst, pe_dict0, pe_dict0K, pe_meth, meth1_ins, con1_ins, s_seq, s_drop, s_ret, s_if, s_next, s_retN, s_asg, s_for, g_nm, g_sub, s_raise, fn_w, out_rt, out_nx, out_ex, set0, setS, lt_ii, le_ii, gt_ii, ge_ii, sub_ii, add_ii, int_i, eq_ii, ne_ii, sub_ref, sub1_lst, sub1_insF, ixSeq0, ixSeq1, ixSeq2, ixSeq3, sub_tup, set_ref, pset_ek, pset_own, startW, List.map_cons, List.map_nil, List.length_cons, List.length_nil, List.replicate_succ, List.replicate_zero, List.cons_append, List.nil_append, Nat.reduceAdd, Nat.reduceSub, Nat.add_sub_cancel, decide_true, decide_false, Bool.not_true, Bool.not_false, List.length_append, List.set_cons_zero, List.set_cons_succ, Nat.reduceLT, Nat.reduceEqDiff, ↓reduceIte, Nat.zero_ne_one, Nat.one_ne_zero, app_ref, papp1, ty_ref, isL_lst, list_ref, plist1, s_fld, ins_ref, ins1_ins, ps_fld1, putW, fldOf, getW, g_tup2, not_non, not_str, nin_in, in_ref, in1_strs, in1_dT, in1_insF, len_ref1, len1_lst, List.length_map, Nat.zero_add, getD, pe_lc, pi_range1, range1_i, WL.Q.pi_seq, itemsR_ref, items1_lst, itemsR_tup, lenO_ref, lenO1_ins, natC_int, pe_is, isB_some, isR_tup, isR_int, isR_str, isR_bl, isR_non, isR_ref, isR1_lst, isR1_ins, WL.Q.pe_prop, prop1_ins, wp_noX, nP_ok, not_bl, is_non, is_str, is_bl, notnon_bl, isnon_bl, notnon_ref, isnon_ref, is_tg, not_tg, eq_bb, ne_bb, xi, dget_some, psub_ek, list_scr, list_tup, bind_ok, bind_ex, fl_ok, fl_ex, sq_nx, sq_rt, sq_ex, sq_bk, sq_ct, optE_none, optE_some, optI_int, slice_ref, slice1_lst, slice_tup, add_ref, add2_lst, tt_and, WL.Q.pe_slice, s_prop, sprop1_ins, notnon_tup, notnon_int, pi_any, WL.Q.pe_fmt, fmtR_some, WL.Q.pe_orT, orR_t, orR_f, tru_non, just8, just2, g_tup4, hH, natW, (F H).get R.hr, ix_refs hr1, ((F H).get hr2).trans row_eq, hwid, small_nat (show wide ≤ 1000 by omega)]; (try clear hH))
    refine wp_for (J := rangeI 0 wide) (fun j σ g => ∃ o5 o6 o7, σ = [some (.ref lr), some (.ref lN), some (.ref lA), some (.ref lx), some (.int (n : Nat)), o5, o6, o7] ∧ Has g ((lo, GO.lst ((ordN rows count).map natW)) :: (lx, GO.lst (dueL names acts rows wide ((ordN rows count).take i) ++ dueRow names acts rows j n)) :: S)) ⟨_, _, _, rfl, by simpa [dueRow] using H⟩ (fun _ _ _ _ => rfl) (fun j w σ g hw hI => ?_) (fun σ g hI => ?_)
    · obtain ⟨o5, o6, o7, rfl, H⟩ := hI
      have hjr := range_get hw
      have hj := hjr.1
      have hwe := hjr.2
      clear hjr
      subst hwe
      have hjl : j < row.length := by omega
      have hcell := List.getElem?_eq_getElem hjl
      generalize row[j] = cell at hcell
      have hcok : CellOk count cell := ok.cell row (List.mem_of_getElem? hrow) cell (List.mem_of_getElem? hcell)
      have hat : cellAt rows n j = cell := cellAt_of hrow hcell
      have rl := dueRow_len (names := names) (acts := acts) (rows := rows) (wide := j) (k := n)
      have H2 : Has g ((lx, GO.lst (dueL names acts rows wide ((ordN rows count).take i) ++ dueRow names acts rows j n)) :: S ++ [(lo, GO.lst ((ordN rows count).map natW))]) := H.rot
      ((try simp only [List.set_cons_zero, List.set_cons_succ, List.eraseIdx_cons_zero, List.eraseIdx_cons_succ, List.cons_append, List.nil_append] at H); have hH := H; (try simp only [has_cons, has_nil, dist_cons, dist_nil, ne_eq, and_true, true_and, List.set_cons_zero, List.set_cons_succ] at hH); simp only [wp_bind, wp_fl, wp_sq, wp_out, wpO_ok, wpO_ex, wpF_nx, wpF_rt, wpF_ex, wpF_bk, wpF_ct, bP_ok, bP_ex, lP_ok, lP_ex, qP_nx, qP_rt, qP_ex, qP_bk, qP_ct, oP_rt, oP_nx, oP_ex, loopP_nx, loopP_ct, loopP_bk, loopP_rt, loopP_ex, tgP_ok, wp_try, tryP_nx, tryP_rt, tryP_ct, tryP_bk, offS_rt, offS_nx, br_t, br_f, e_var0, e_varS, e_c, e_bin, a_nil, a_cons, e_fn, e_tup, asB_bl, t_val, asT_bl, t_tru, t_not, t_and, t_or, e_if, e_and, e_or, e_not, e_chain, e_fld, e_con, e_bm, e_star, WL.Q.pe_lst, pe_dict0, pe_dict0K, pe_meth, meth1_ins, con1_ins, s_seq, s_drop, s_ret, s_if, s_next, s_retN, s_asg, s_for, g_nm, g_sub, s_raise, fn_w, out_rt, out_nx, out_ex, set0, setS, lt_ii, le_ii, gt_ii, ge_ii, sub_ii, add_ii, int_i, eq_ii, ne_ii, sub_ref, sub1_lst, sub1_insF, ixSeq0, ixSeq1, ixSeq2, ixSeq3, sub_tup, set_ref, pset_ek, pset_own, startW, List.map_cons, List.map_nil, List.length_cons, List.length_nil, List.replicate_succ, List.replicate_zero, List.cons_append, List.nil_append, Nat.reduceAdd, Nat.reduceSub, Nat.add_sub_cancel, decide_true, decide_false, Bool.not_true, Bool.not_false, List.length_append, List.set_cons_zero, List.set_cons_succ, Nat.reduceLT, Nat.reduceEqDiff, ↓reduceIte, Nat.zero_ne_one, Nat.one_ne_zero, app_ref, papp1, ty_ref, isL_lst, list_ref, plist1, s_fld, ins_ref, ins1_ins, ps_fld1, putW, fldOf, getW, g_tup2, not_non, not_str, nin_in, in_ref, in1_strs, in1_dT, in1_insF, len_ref1, len1_lst, List.length_map, Nat.zero_add, getD, pe_lc, pi_range1, range1_i, WL.Q.pi_seq, itemsR_ref, items1_lst, itemsR_tup, lenO_ref, lenO1_ins, natC_int, pe_is, isB_some, isR_tup, isR_int, isR_str, isR_bl, isR_non, isR_ref, isR1_lst, isR1_ins, WL.Q.pe_prop, prop1_ins, wp_noX, nP_ok, not_bl, is_non, is_str, is_bl, notnon_bl, isnon_bl, notnon_ref, isnon_ref, is_tg, not_tg, eq_bb, ne_bb, xi, dget_some, psub_ek, list_scr, list_tup, bind_ok, bind_ex, fl_ok, fl_ex, sq_nx, sq_rt, sq_ex, sq_bk, sq_ct, optE_none, optE_some, optI_int, slice_ref, slice1_lst, slice_tup, add_ref, add2_lst, tt_and, WL.Q.pe_slice, s_prop, sprop1_ins, notnon_tup, notnon_int, pi_any, WL.Q.pe_fmt, fmtR_some, WL.Q.pe_orT, orR_t, orR_f, tru_non, just8, just2, g_tup4, hH]; (try clear hH))
      refine due_step (wide := wide) (S := S ++ [(lo, GO.lst ((ordN rows count).map natW))]) (refs := refs) (rows := rows) (names := names) (acts := acts) (count := count) (ir := ir) (off := off) (iN := iN) (iA := iA) ⟨app_idx R.hr, R.len, fun k r row a b => app_idx (R.row k r row a b)⟩ hr1 (app_idx hr2) hcell hcok (app_idx hNi) (app_idx hAi) hN hnl hA hal hnc (by omega) (by rw [List.length_append]; omega) H2 fun o6 o7 g' H3 => ?_
      rw [loopP_nx]
      refine ⟨_, _, _, rfl, ?_⟩
      have H4 : Has g' ((lo, GO.lst ((ordN rows count).map natW)) :: (lx, GO.lst (dueL names acts rows wide ((ordN rows count).take i) ++ dueRow names acts rows j n ++ (dueCell names acts n j cell).toList)) :: S) := by
        have H5 := H3.front (i := S.length + 1) (l := lo) (o := GO.lst ((ordN rows count).map natW)) (by simp)
        have e : ((lx, GO.lst (dueL names acts rows wide ((ordN rows count).take i) ++ dueRow names acts rows j n ++ (dueCell names acts n j cell).toList)) :: (S ++ [(lo, GO.lst ((ordN rows count).map natW))])).eraseIdx (S.length + 1) = (lx, GO.lst (dueL names acts rows wide ((ordN rows count).take i) ++ dueRow names acts rows j n ++ (dueCell names acts n j cell).toList)) :: S := by
          rw [List.eraseIdx_cons_succ, List.eraseIdx_append_of_length_le (Nat.le_refl _), Nat.sub_self]
          simp
        rw [e] at H5
        exact H5
      have er : dueRow names acts rows (j + 1) n = dueRow names acts rows j n ++ (dueCell names acts n j cell).toList := by
        unfold dueRow
        rw [List.range_succ, List.filterMap_append, List.filterMap_cons, hat]
        cases dueCell names acts n j cell <;> rfl
      rw [er, ← List.append_assoc]
      exact H4
    · obtain ⟨o5, o6, o7, rfl, H⟩ := hI
      rw [range_len] at H
      rw [loopP_nx]
      refine ⟨_, _, _, _, rfl, ?_⟩
      rw [htk]
      have : dueL names acts rows wide ((ordN rows count).take i ++ [n]) = dueL names acts rows wide ((ordN rows count).take i) ++ dueRow names acts rows wide n := by
        unfold dueL
        rw [List.flatMap_append]
        simp
      rw [this]
      exact H
  · obtain ⟨o4, o5, o6, o7, rfl, H⟩ := hI
    dsimp only at H
    rw [List.length_map, List.take_length] at H
    ((try simp only [List.set_cons_zero, List.set_cons_succ, List.eraseIdx_cons_zero, List.eraseIdx_cons_succ, List.cons_append, List.nil_append] at H); have hH := H; (try simp only [has_cons, has_nil, dist_cons, dist_nil, ne_eq, and_true, true_and, List.set_cons_zero, List.set_cons_succ] at hH); simp only [wp_bind, wp_fl, wp_sq, wp_out, wpO_ok, wpO_ex, wpF_nx, wpF_rt, wpF_ex, wpF_bk, wpF_ct, bP_ok, bP_ex, lP_ok, lP_ex, qP_nx, qP_rt, qP_ex, qP_bk, qP_ct, oP_rt, oP_nx, oP_ex, loopP_nx, loopP_ct, loopP_bk, loopP_rt, loopP_ex, tgP_ok, wp_try, tryP_nx, tryP_rt, tryP_ct, tryP_bk, offS_rt, offS_nx, br_t, br_f, e_var0, e_varS, e_c, e_bin, a_nil, a_cons, e_fn, e_tup, asB_bl, t_val, asT_bl, t_tru, t_not, t_and, t_or, e_if, e_and, e_or, e_not, e_chain, e_fld, e_con, e_bm, e_star, WL.Q.pe_lst, pe_dict0, pe_dict0K, pe_meth, meth1_ins, con1_ins, s_seq, s_drop, s_ret, s_if, s_next, s_retN, s_asg, s_for, g_nm, g_sub, s_raise, fn_w, out_rt, out_nx, out_ex, set0, setS, lt_ii, le_ii, gt_ii, ge_ii, sub_ii, add_ii, int_i, eq_ii, ne_ii, sub_ref, sub1_lst, sub1_insF, ixSeq0, ixSeq1, ixSeq2, ixSeq3, sub_tup, set_ref, pset_ek, pset_own, startW, List.map_cons, List.map_nil, List.length_cons, List.length_nil, List.replicate_succ, List.replicate_zero, List.cons_append, List.nil_append, Nat.reduceAdd, Nat.reduceSub, Nat.add_sub_cancel, decide_true, decide_false, Bool.not_true, Bool.not_false, List.length_append, List.set_cons_zero, List.set_cons_succ, Nat.reduceLT, Nat.reduceEqDiff, ↓reduceIte, Nat.zero_ne_one, Nat.one_ne_zero, app_ref, papp1, ty_ref, isL_lst, list_ref, plist1, s_fld, ins_ref, ins1_ins, ps_fld1, putW, fldOf, getW, g_tup2, not_non, not_str, nin_in, in_ref, in1_strs, in1_dT, in1_insF, len_ref1, len1_lst, List.length_map, Nat.zero_add, getD, pe_lc, pi_range1, range1_i, WL.Q.pi_seq, itemsR_ref, items1_lst, itemsR_tup, lenO_ref, lenO1_ins, natC_int, pe_is, isB_some, isR_tup, isR_int, isR_str, isR_bl, isR_non, isR_ref, isR1_lst, isR1_ins, WL.Q.pe_prop, prop1_ins, wp_noX, nP_ok, not_bl, is_non, is_str, is_bl, notnon_bl, isnon_bl, notnon_ref, isnon_ref, is_tg, not_tg, eq_bb, ne_bb, xi, dget_some, psub_ek, list_scr, list_tup, bind_ok, bind_ex, fl_ok, fl_ex, sq_nx, sq_rt, sq_ex, sq_bk, sq_ct, optE_none, optE_some, optI_int, slice_ref, slice1_lst, slice_tup, add_ref, add2_lst, tt_and, WL.Q.pe_slice, s_prop, sprop1_ins, notnon_tup, notnon_int, pi_any, WL.Q.pe_fmt, fmtR_some, WL.Q.pe_orT, orR_t, orR_f, tru_non, just8, just2, g_tup4, hH, due_r2]; (try clear hH))
    exact k _ _ H.2.2
theorem ok_app {a b : Str} (ha : PySem.PyData.strOk a = true) (hb : PySem.PyData.strOk b = true) : PySem.PyData.strOk (a ++ b) = true := by
  unfold PySem.PyData.strOk at *
  show (a.cps ++ b.cps).all _ = true
  rw [Array.all_append, ha, hb]
  rfl
theorem ok_ljust {s : Str} (h : PySem.PyData.strOk s = true) : PySem.PyData.strOk (Txt.ljust s 8) = true := by
  unfold Txt.ljust
  split
  · exact h
  · unfold Builtin.Str.padded PySem.PyData.strOk at *
    dsimp only
    have e : ∀ n : Nat, (Array.replicate n 32).all (fun x => decide (x < 1114112)) = true := fun n => by
      rw [Array.all_eq_true]
      intro i hi
      simp
    rw [Array.all_append, Array.all_append, h, e, e]
    rfl
theorem ok_line {s n : Str} {k : Nat} {t : Option Str} (hs : Nm s) (hn : Nm n) (hk : k < 4) (ht : TgOk t) : PySem.PyData.strOk (lineS s k n (tgS t)) = true := by
  have h1 := ok_ljust hs.ok
  have h2 := ok_ljust hn.ok
  have h3 : PySem.PyData.strOk (Txt.rjust (toString ((k : Nat) : Int)) 2) = true := by
    rw [rj ⟨k, hk⟩]
    unfold PySem.PyData.strOk
    simp
    omega
  have h4 : PySem.PyData.strOk (tgS t) = true := by
    cases t with
    | none => show PySem.PyData.strOk "." = true; decide +kernel
    | some s => exact (show Nm s from ht).ok
  have h5 : PySem.PyData.strOk " " = true := by decide +kernel
  exact ok_app (ok_app (ok_app (ok_app (ok_app (ok_app h1 h5) h3) h5) h2) h5) h4
theorem cellAt_ok {count wide : Nat} {rows : List (List Cell)} (ok : RowsOk count wide rows) (k j : Nat) : CellOk count (cellAt rows k j) := by
  unfold cellAt
  cases hr : rows[k]? with
  | none => trivial
  | some row =>
    dsimp only
    cases hc : row[j]? with
    | none => trivial
    | some c => exact ok.cell row (List.mem_of_getElem? hr) c (List.mem_of_getElem? hc)
theorem okDue {names acts : List Str} {count wide : Nat} {rows : List (List Cell)} {ord : List Nat} (ok : RowsOk count wide rows) (hN : ∀ s ∈ names, Nm s) (hnl : count ≤ names.length) (hA : ∀ s ∈ acts, Nm s) (hal : 4 ≤ acts.length) (ho : ∀ k ∈ ord, k < count) (hw : wide ≤ 4) : okWs 5 (dueL names acts rows wide ord) = true := okWs_of fun w hw' => by
  unfold dueL at hw'
  obtain ⟨k, hk, hw'⟩ := List.mem_flatMap.mp hw'
  unfold dueRow at hw'
  obtain ⟨j, hj, e⟩ := List.mem_filterMap.mp hw'
  have hj2 : j < wide := by simpa using hj
  have hc := cellAt_ok ok k j
  have hkc := ho k hk
  generalize cellAt rows k j = cell at e hc
  cases cell with
  | none => cases e
  | some p =>
    obtain ⟨a, t⟩ := p
    have e2 : w = .str (lineS (nth names k) j (nth acts a) (tgS (tgOf names t))) := (Option.some.inj e).symm
    rw [e2]
    unfold okW
    exact ok_line (hN _ (nth_mem (by omega))) (hA _ (nth_mem (Nat.lt_of_lt_of_le hc.1 hal))) (by omega) (tgOf_ok hN hnl hc)
theorem lc_names {names : List Str} {l : List Nat} : (l.map natW).map (fun w => match w with | .int k => W.str (nth names k.toNat) | _ => .non) = (l.map (nth names)).map W.str := by
  rw [List.map_map, List.map_map]
  rfl
theorem resets {g : G} {ns : List Int} {p q lr count wide k : Nat} {o5 o6 : Option W} {refs : List Nat} {rows : List (List Cell)} {o : GO} {P : Fl → Prop} (hc : 1 ≤ count) (hc2 : count ≤ 16) (hw1 : 1 ≤ wide) (hw2 : wide ≤ 4) (ok : RowsOk count wide rows) (hrl : refs.length = count) (ho : PoolOk q ns o)
    (H : Has g ([(lr, GO.lst (refs.map .ref)), (p, o), (q, .lst (ns.map .int))] ++ rowsPart refs rows))
    (kk : ∀ o5 o6 refs rows o g', RowsOk count wide rows → refs.length = count → PoolOk q ns o → Has g' ([(lr, GO.lst (refs.map .ref)), (p, o), (q, .lst (ns.map .int))] ++ rowsPart refs rows) → P (.nx ([some (.scr ns), some (.ref p), some (.ref lr), some (.int wide), some (.int (k : Nat)), o5, o6] ++ List.replicate 12 none) g')) :
    wpF (law_fb0 ([some (.scr ns), some (.ref p), some (.ref lr), some (.int wide), some (.int (k : Nat)), o5, o6] ++ List.replicate 12 none) g) P := by
  unfold law_fb0
  rw [← rowsetS_def]
  ((try simp only [List.set_cons_zero, List.set_cons_succ, List.eraseIdx_cons_zero, List.eraseIdx_cons_succ, List.cons_append, List.nil_append] at H); have hH := H; (try simp only [has_cons, has_nil, dist_cons, dist_nil, ne_eq, and_true, true_and, List.set_cons_zero, List.set_cons_succ] at hH); simp only [wp_bind, wp_fl, wp_sq, wp_out, wpO_ok, wpO_ex, wpF_nx, wpF_rt, wpF_ex, wpF_bk, wpF_ct, bP_ok, bP_ex, lP_ok, lP_ex, qP_nx, qP_rt, qP_ex, qP_bk, qP_ct, oP_rt, oP_nx, oP_ex, loopP_nx, loopP_ct, loopP_bk, loopP_rt, loopP_ex, tgP_ok, wp_try, tryP_nx, tryP_rt, tryP_ct, tryP_bk, offS_rt, offS_nx, br_t, br_f, e_var0, e_varS, e_c, e_bin, a_nil, a_cons, e_fn, e_tup, asB_bl, t_val, asT_bl, t_tru, t_not, t_and, t_or, e_if, e_and, e_or, e_not, e_chain, e_fld, e_con, e_bm, e_star, WL.Q.pe_lst, pe_dict0, pe_dict0K, pe_meth, meth1_ins, con1_ins, s_seq, s_drop, s_ret, s_if, s_next, s_retN, s_asg, s_for, g_nm, g_sub, s_raise, fn_w, out_rt, out_nx, out_ex, set0, setS, lt_ii, le_ii, gt_ii, ge_ii, sub_ii, add_ii, int_i, eq_ii, ne_ii, sub_ref, sub1_lst, sub1_insF, ixSeq0, ixSeq1, ixSeq2, ixSeq3, sub_tup, set_ref, pset_ek, pset_own, startW, List.map_cons, List.map_nil, List.length_cons, List.length_nil, List.replicate_succ, List.replicate_zero, List.cons_append, List.nil_append, Nat.reduceAdd, Nat.reduceSub, Nat.add_sub_cancel, decide_true, decide_false, Bool.not_true, Bool.not_false, List.length_append, List.set_cons_zero, List.set_cons_succ, Nat.reduceLT, Nat.reduceEqDiff, ↓reduceIte, Nat.zero_ne_one, Nat.one_ne_zero, app_ref, papp1, ty_ref, isL_lst, list_ref, plist1, s_fld, ins_ref, ins1_ins, ps_fld1, putW, fldOf, getW, g_tup2, not_non, not_str, nin_in, in_ref, in1_strs, in1_dT, in1_insF, len_ref1, len1_lst, List.length_map, Nat.zero_add, getD, pe_lc, pi_range1, range1_i, WL.Q.pi_seq, itemsR_ref, items1_lst, itemsR_tup, lenO_ref, lenO1_ins, natC_int, pe_is, isB_some, isR_tup, isR_int, isR_str, isR_bl, isR_non, isR_ref, isR1_lst, isR1_ins, WL.Q.pe_prop, prop1_ins, wp_noX, nP_ok, not_bl, is_non, is_str, is_bl, notnon_bl, isnon_bl, notnon_ref, isnon_ref, is_tg, not_tg, eq_bb, ne_bb, xi, dget_some, psub_ek, list_scr, list_tup, bind_ok, bind_ex, fl_ok, fl_ex, sq_nx, sq_rt, sq_ex, sq_bk, sq_ct, optE_none, optE_some, optI_int, slice_ref, slice1_lst, slice_tup, add_ref, add2_lst, tt_and, WL.Q.pe_slice, s_prop, sprop1_ins, notnon_tup, notnon_int, pi_any, WL.Q.pe_fmt, fmtR_some, WL.Q.pe_orT, orR_t, orR_f, tru_non, just8, just2, g_tup4, hH, hrl]; (try clear hH))
  refine sp_draw H 1 rfl 2 rfl ho (by omega) (by omega) fun d1 o g hd1 ho H => ?_
  ((try simp only [List.set_cons_zero, List.set_cons_succ, List.eraseIdx_cons_zero, List.eraseIdx_cons_succ, List.cons_append, List.nil_append] at H); have hH := H; (try simp only [has_cons, has_nil, dist_cons, dist_nil, ne_eq, and_true, true_and, List.set_cons_zero, List.set_cons_succ] at hH); simp only [wp_bind, wp_fl, wp_sq, wp_out, wpO_ok, wpO_ex, wpF_nx, wpF_rt, wpF_ex, wpF_bk, wpF_ct, bP_ok, bP_ex, lP_ok, lP_ex, qP_nx, qP_rt, qP_ex, qP_bk, qP_ct, oP_rt, oP_nx, oP_ex, loopP_nx, loopP_ct, loopP_bk, loopP_rt, loopP_ex, tgP_ok, wp_try, tryP_nx, tryP_rt, tryP_ct, tryP_bk, offS_rt, offS_nx, br_t, br_f, e_var0, e_varS, e_c, e_bin, a_nil, a_cons, e_fn, e_tup, asB_bl, t_val, asT_bl, t_tru, t_not, t_and, t_or, e_if, e_and, e_or, e_not, e_chain, e_fld, e_con, e_bm, e_star, WL.Q.pe_lst, pe_dict0, pe_dict0K, pe_meth, meth1_ins, con1_ins, s_seq, s_drop, s_ret, s_if, s_next, s_retN, s_asg, s_for, g_nm, g_sub, s_raise, fn_w, out_rt, out_nx, out_ex, set0, setS, lt_ii, le_ii, gt_ii, ge_ii, sub_ii, add_ii, int_i, eq_ii, ne_ii, sub_ref, sub1_lst, sub1_insF, ixSeq0, ixSeq1, ixSeq2, ixSeq3, sub_tup, set_ref, pset_ek, pset_own, startW, List.map_cons, List.map_nil, List.length_cons, List.length_nil, List.replicate_succ, List.replicate_zero, List.cons_append, List.nil_append, Nat.reduceAdd, Nat.reduceSub, Nat.add_sub_cancel, decide_true, decide_false, Bool.not_true, Bool.not_false, List.length_append, List.set_cons_zero, List.set_cons_succ, Nat.reduceLT, Nat.reduceEqDiff, ↓reduceIte, Nat.zero_ne_one, Nat.one_ne_zero, app_ref, papp1, ty_ref, isL_lst, list_ref, plist1, s_fld, ins_ref, ins1_ins, ps_fld1, putW, fldOf, getW, g_tup2, not_non, not_str, nin_in, in_ref, in1_strs, in1_dT, in1_insF, len_ref1, len1_lst, List.length_map, Nat.zero_add, getD, pe_lc, pi_range1, range1_i, WL.Q.pi_seq, itemsR_ref, items1_lst, itemsR_tup, lenO_ref, lenO1_ins, natC_int, pe_is, isB_some, isR_tup, isR_int, isR_str, isR_bl, isR_non, isR_ref, isR1_lst, isR1_ins, WL.Q.pe_prop, prop1_ins, wp_noX, nP_ok, not_bl, is_non, is_str, is_bl, notnon_bl, isnon_bl, notnon_ref, isnon_ref, is_tg, not_tg, eq_bb, ne_bb, xi, dget_some, psub_ek, list_scr, list_tup, bind_ok, bind_ex, fl_ok, fl_ex, sq_nx, sq_rt, sq_ex, sq_bk, sq_ct, optE_none, optE_some, optI_int, slice_ref, slice1_lst, slice_tup, add_ref, add2_lst, tt_and, WL.Q.pe_slice, s_prop, sprop1_ins, notnon_tup, notnon_int, pi_any, WL.Q.pe_fmt, fmtR_some, WL.Q.pe_orT, orR_t, orR_f, tru_non, just8, just2, g_tup4, hH]; (try clear hH))
  refine sp_draw H 1 rfl 2 rfl ho (by omega) (by omega) fun d2 o g hd2 ho H => ?_
  ((try simp only [List.set_cons_zero, List.set_cons_succ, List.eraseIdx_cons_zero, List.eraseIdx_cons_succ, List.cons_append, List.nil_append] at H); have hH := H; (try simp only [has_cons, has_nil, dist_cons, dist_nil, ne_eq, and_true, true_and, List.set_cons_zero, List.set_cons_succ] at hH); simp only [wp_bind, wp_fl, wp_sq, wp_out, wpO_ok, wpO_ex, wpF_nx, wpF_rt, wpF_ex, wpF_bk, wpF_ct, bP_ok, bP_ex, lP_ok, lP_ex, qP_nx, qP_rt, qP_ex, qP_bk, qP_ct, oP_rt, oP_nx, oP_ex, loopP_nx, loopP_ct, loopP_bk, loopP_rt, loopP_ex, tgP_ok, wp_try, tryP_nx, tryP_rt, tryP_ct, tryP_bk, offS_rt, offS_nx, br_t, br_f, e_var0, e_varS, e_c, e_bin, a_nil, a_cons, e_fn, e_tup, asB_bl, t_val, asT_bl, t_tru, t_not, t_and, t_or, e_if, e_and, e_or, e_not, e_chain, e_fld, e_con, e_bm, e_star, WL.Q.pe_lst, pe_dict0, pe_dict0K, pe_meth, meth1_ins, con1_ins, s_seq, s_drop, s_ret, s_if, s_next, s_retN, s_asg, s_for, g_nm, g_sub, s_raise, fn_w, out_rt, out_nx, out_ex, set0, setS, lt_ii, le_ii, gt_ii, ge_ii, sub_ii, add_ii, int_i, eq_ii, ne_ii, sub_ref, sub1_lst, sub1_insF, ixSeq0, ixSeq1, ixSeq2, ixSeq3, sub_tup, set_ref, pset_ek, pset_own, startW, List.map_cons, List.map_nil, List.length_cons, List.length_nil, List.replicate_succ, List.replicate_zero, List.cons_append, List.nil_append, Nat.reduceAdd, Nat.reduceSub, Nat.add_sub_cancel, decide_true, decide_false, Bool.not_true, Bool.not_false, List.length_append, List.set_cons_zero, List.set_cons_succ, Nat.reduceLT, Nat.reduceEqDiff, ↓reduceIte, Nat.zero_ne_one, Nat.one_ne_zero, app_ref, papp1, ty_ref, isL_lst, list_ref, plist1, s_fld, ins_ref, ins1_ins, ps_fld1, putW, fldOf, getW, g_tup2, not_non, not_str, nin_in, in_ref, in1_strs, in1_dT, in1_insF, len_ref1, len1_lst, List.length_map, Nat.zero_add, getD, pe_lc, pi_range1, range1_i, WL.Q.pi_seq, itemsR_ref, items1_lst, itemsR_tup, lenO_ref, lenO1_ins, natC_int, pe_is, isB_some, isR_tup, isR_int, isR_str, isR_bl, isR_non, isR_ref, isR1_lst, isR1_ins, WL.Q.pe_prop, prop1_ins, wp_noX, nP_ok, not_bl, is_non, is_str, is_bl, notnon_bl, isnon_bl, notnon_ref, isnon_ref, is_tg, not_tg, eq_bb, ne_bb, xi, dget_some, psub_ek, list_scr, list_tup, bind_ok, bind_ex, fl_ok, fl_ex, sq_nx, sq_rt, sq_ex, sq_bk, sq_ct, optE_none, optE_some, optI_int, slice_ref, slice1_lst, slice_tup, add_ref, add2_lst, tt_and, WL.Q.pe_slice, s_prop, sprop1_ins, notnon_tup, notnon_int, pi_any, WL.Q.pe_fmt, fmtR_some, WL.Q.pe_orT, orR_t, orR_f, tru_non, just8, just2, g_tup4, hH]; (try clear hH))
  refine sp_rowset2 (S := [(lr, GO.lst (refs.map .ref)), (p, o), (q, .lst (ns.map .int))]) (cell := none) 0 (fun _ => rfl) (fun _ => rfl) (fun _ => rfl) (fun _ => rfl) H rfl hrl ok (by omega) (by omega) fun l g H => ?_
  exact kk _ _ _ _ o g (ok.put (cell := none) (by omega) (by omega) trivial) (by simp [hrl]) ho H
theorem exp_step {g : G} {S : List (Nat × GO)} {ir off lr lN lA iN iA lx count k j r : Nat} {refs : List Nat} {rows : List (List Cell)} {row : List Cell} {cell : Cell} {names acts : List Str} {acc : List W} {o0 o1 o3 o4 o5 o6 o9 o10 o11 o12 o13 o17 o18 : Option W} {P : Fl → Prop}
    (R : RowsIn S ir off lr refs rows) (hr1 : refs[k]? = some r) (hr2 : S[off + k]? = some (r, rowW row)) (hcell : row[j]? = some cell) (hcok : CellOk count cell) (hNi : S[iN]? = some (lN, GO.lst (names.map W.str))) (hAi : S[iA]? = some (lA, GO.lst (acts.map W.str)))
    (hN : ∀ s ∈ names, Nm s) (nd : names.Nodup) (hnl : count ≤ names.length) (hA : ∀ s ∈ acts, Nm s) (hal : 4 ≤ acts.length) (hk : k < count) (hj : j < 4) (hacc : acc.length ≤ 1000)
    (H : Has g ((lx, GO.lst acc) :: S))
    (kk : ∀ o12 o17 g', Has g' ((lx, GO.lst (acc ++ (dueCell names acts k j cell).toList)) :: S) → P (.nx [o0, o1, some (.ref lr), o3, o4, o5, o6, some (.ref lN), some (.ref lA), o9, o10, o11, o12, o13, some (.ref lx), some (.str (nth names k)), some (.int (j : Nat)), o17, o18] g')) :
    wpF (law_fb2 [o0, o1, some (.ref lr), o3, o4, o5, o6, some (.ref lN), some (.ref lA), o9, o10, o11, o12, o13, some (.ref lx), some (.str (nth names k)), some (.int (j : Nat)), o17, o18] g) P := by
  unfold law_fb2
  have hki : k < names.length := by omega
  cases cell with
  | none =>
    ((try simp only [List.set_cons_zero, List.set_cons_succ, List.eraseIdx_cons_zero, List.eraseIdx_cons_succ, List.cons_append, List.nil_append] at H); have hH := H; (try simp only [has_cons, has_nil, dist_cons, dist_nil, ne_eq, and_true, true_and, List.set_cons_zero, List.set_cons_succ] at hH); simp only [wp_bind, wp_fl, wp_sq, wp_out, wpO_ok, wpO_ex, wpF_nx, wpF_rt, wpF_ex, wpF_bk, wpF_ct, bP_ok, bP_ex, lP_ok, lP_ex, qP_nx, qP_rt, qP_ex, qP_bk, qP_ct, oP_rt, oP_nx, oP_ex, loopP_nx, loopP_ct, loopP_bk, loopP_rt, loopP_ex, tgP_ok, wp_try, tryP_nx, tryP_rt, tryP_ct, tryP_bk, offS_rt, offS_nx, br_t, br_f, e_var0, e_varS, e_c, e_bin, a_nil, a_cons, e_fn, e_tup, asB_bl, t_val, asT_bl, t_tru, t_not, t_and, t_or, e_if, e_and, e_or, e_not, e_chain, e_fld, e_con, e_bm, e_star, WL.Q.pe_lst, pe_dict0, pe_dict0K, pe_meth, meth1_ins, con1_ins, s_seq, s_drop, s_ret, s_if, s_next, s_retN, s_asg, s_for, g_nm, g_sub, s_raise, fn_w, out_rt, out_nx, out_ex, set0, setS, lt_ii, le_ii, gt_ii, ge_ii, sub_ii, add_ii, int_i, eq_ii, ne_ii, sub_ref, sub1_lst, sub1_insF, ixSeq0, ixSeq1, ixSeq2, ixSeq3, sub_tup, set_ref, pset_ek, pset_own, startW, List.map_cons, List.map_nil, List.length_cons, List.length_nil, List.replicate_succ, List.replicate_zero, List.cons_append, List.nil_append, Nat.reduceAdd, Nat.reduceSub, Nat.add_sub_cancel, decide_true, decide_false, Bool.not_true, Bool.not_false, List.length_append, List.set_cons_zero, List.set_cons_succ, Nat.reduceLT, Nat.reduceEqDiff, ↓reduceIte, Nat.zero_ne_one, Nat.one_ne_zero, app_ref, papp1, ty_ref, isL_lst, list_ref, plist1, s_fld, ins_ref, ins1_ins, ps_fld1, putW, fldOf, getW, g_tup2, not_non, not_str, nin_in, in_ref, in1_strs, in1_dT, in1_insF, len_ref1, len1_lst, List.length_map, Nat.zero_add, getD, pe_lc, pi_range1, range1_i, WL.Q.pi_seq, itemsR_ref, items1_lst, itemsR_tup, lenO_ref, lenO1_ins, natC_int, pe_is, isB_some, isR_tup, isR_int, isR_str, isR_bl, isR_non, isR_ref, isR1_lst, isR1_ins, WL.Q.pe_prop, prop1_ins, wp_noX, nP_ok, not_bl, is_non, is_str, is_bl, notnon_bl, isnon_bl, notnon_ref, isnon_ref, is_tg, not_tg, eq_bb, ne_bb, xi, dget_some, psub_ek, list_scr, list_tup, bind_ok, bind_ex, fl_ok, fl_ex, sq_nx, sq_rt, sq_ex, sq_bk, sq_ct, optE_none, optE_some, optI_int, slice_ref, slice1_lst, slice_tup, add_ref, add2_lst, tt_and, WL.Q.pe_slice, s_prop, sprop1_ins, notnon_tup, notnon_int, pi_any, WL.Q.pe_fmt, fmtR_some, WL.Q.pe_orT, orR_t, orR_f, tru_non, just8, just2, g_tup4, hH, H.2.2.get R.hr, H.2.2.get hNi, index_at (H.2.2.get hNi) nd hki, ix_refs hr1, (H.2.2.get hr2).trans row_eq, ix_cell hcell, cellW]; (try clear hH))
    exact kk _ _ _ (by simpa [dueCell] using H)
  | some p =>
    obtain ⟨a, t⟩ := p
    have ha : a < acts.length := Nat.lt_of_lt_of_le hcok.1 hal
    have hnm : Nm (nth names k) := hN _ (nth_mem hki)
    have ham : Nm (nth acts a) := hA _ (nth_mem ha)
    have pc := Pcs.mk' hnm ham hj (tgOf_ok hN hnl hcok)
    ((try simp only [List.set_cons_zero, List.set_cons_succ, List.eraseIdx_cons_zero, List.eraseIdx_cons_succ, List.cons_append, List.nil_append] at H); have hH := H; (try simp only [has_cons, has_nil, dist_cons, dist_nil, ne_eq, and_true, true_and, List.set_cons_zero, List.set_cons_succ] at hH); simp only [wp_bind, wp_fl, wp_sq, wp_out, wpO_ok, wpO_ex, wpF_nx, wpF_rt, wpF_ex, wpF_bk, wpF_ct, bP_ok, bP_ex, lP_ok, lP_ex, qP_nx, qP_rt, qP_ex, qP_bk, qP_ct, oP_rt, oP_nx, oP_ex, loopP_nx, loopP_ct, loopP_bk, loopP_rt, loopP_ex, tgP_ok, wp_try, tryP_nx, tryP_rt, tryP_ct, tryP_bk, offS_rt, offS_nx, br_t, br_f, e_var0, e_varS, e_c, e_bin, a_nil, a_cons, e_fn, e_tup, asB_bl, t_val, asT_bl, t_tru, t_not, t_and, t_or, e_if, e_and, e_or, e_not, e_chain, e_fld, e_con, e_bm, e_star, WL.Q.pe_lst, pe_dict0, pe_dict0K, pe_meth, meth1_ins, con1_ins, s_seq, s_drop, s_ret, s_if, s_next, s_retN, s_asg, s_for, g_nm, g_sub, s_raise, fn_w, out_rt, out_nx, out_ex, set0, setS, lt_ii, le_ii, gt_ii, ge_ii, sub_ii, add_ii, int_i, eq_ii, ne_ii, sub_ref, sub1_lst, sub1_insF, ixSeq0, ixSeq1, ixSeq2, ixSeq3, sub_tup, set_ref, pset_ek, pset_own, startW, List.map_cons, List.map_nil, List.length_cons, List.length_nil, List.replicate_succ, List.replicate_zero, List.cons_append, List.nil_append, Nat.reduceAdd, Nat.reduceSub, Nat.add_sub_cancel, decide_true, decide_false, Bool.not_true, Bool.not_false, List.length_append, List.set_cons_zero, List.set_cons_succ, Nat.reduceLT, Nat.reduceEqDiff, ↓reduceIte, Nat.zero_ne_one, Nat.one_ne_zero, app_ref, papp1, ty_ref, isL_lst, list_ref, plist1, s_fld, ins_ref, ins1_ins, ps_fld1, putW, fldOf, getW, g_tup2, not_non, not_str, nin_in, in_ref, in1_strs, in1_dT, in1_insF, len_ref1, len1_lst, List.length_map, Nat.zero_add, getD, pe_lc, pi_range1, range1_i, WL.Q.pi_seq, itemsR_ref, items1_lst, itemsR_tup, lenO_ref, lenO1_ins, natC_int, pe_is, isB_some, isR_tup, isR_int, isR_str, isR_bl, isR_non, isR_ref, isR1_lst, isR1_ins, WL.Q.pe_prop, prop1_ins, wp_noX, nP_ok, not_bl, is_non, is_str, is_bl, notnon_bl, isnon_bl, notnon_ref, isnon_ref, is_tg, not_tg, eq_bb, ne_bb, xi, dget_some, psub_ek, list_scr, list_tup, bind_ok, bind_ex, fl_ok, fl_ex, sq_nx, sq_rt, sq_ex, sq_bk, sq_ct, optE_none, optE_some, optI_int, slice_ref, slice1_lst, slice_tup, add_ref, add2_lst, tt_and, WL.Q.pe_slice, s_prop, sprop1_ins, notnon_tup, notnon_int, pi_any, WL.Q.pe_fmt, fmtR_some, WL.Q.pe_orT, orR_t, orR_f, tru_non, just8, just2, g_tup4, hH, H.2.2.get R.hr, H.2.2.get hNi, index_at (H.2.2.get hNi) nd hki, ix_refs hr1, (H.2.2.get hr2).trans row_eq, ix_cell hcell, cellW, ty_str, str_nat (show j ≤ 1000 by omega), add_str, pc.a, pc.s, pc.a1, pc.b, pc.a2, pc.a3, pc.c, pc.a4, pc.a5, pc.t, H.2.2.get hAi, ix_nth ha, etgS hnl hcok, fits_of (show acc.length ≤ 1000000 by omega)]; (try clear hH))
    ((try simp only [List.set_cons_zero, List.set_cons_succ, List.eraseIdx_cons_zero, List.eraseIdx_cons_succ, List.cons_append, List.nil_append] at H); first | refine wp_upd H 0 rfl fun _ H => ?_ | refine wp_upd H 1 rfl fun _ H => ?_ | refine wp_upd H 2 rfl fun _ H => ?_ | refine wp_upd H 3 rfl fun _ H => ?_ | refine wp_upd H 4 rfl fun _ H => ?_ | refine wp_upd H 5 rfl fun _ H => ?_ | refine wp_upd H 6 rfl fun _ H => ?_ | refine wp_upd H 7 rfl fun _ H => ?_ | refine wp_upd H 8 rfl fun _ H => ?_ | refine wp_upd H 9 rfl fun _ H => ?_ | refine wp_upd H 10 rfl fun _ H => ?_ | refine wp_upd H 11 rfl fun _ H => ?_ | refine wp_upd H 12 rfl fun _ H => ?_ | refine wp_upd H 13 rfl fun _ H => ?_ | refine wp_upd H 14 rfl fun _ H => ?_ | refine wp_upd H 15 rfl fun _ H => ?_ | refine wp_upd H 16 rfl fun _ H => ?_ | refine wp_upd H 17 rfl fun _ H => ?_ | refine wp_upd H 18 rfl fun _ H => ?_ | refine wp_upd H 19 rfl fun _ H => ?_)
    ((try simp only [List.set_cons_zero, List.set_cons_succ, List.eraseIdx_cons_zero, List.eraseIdx_cons_succ, List.cons_append, List.nil_append] at H); have hH := H; (try simp only [has_cons, has_nil, dist_cons, dist_nil, ne_eq, and_true, true_and, List.set_cons_zero, List.set_cons_succ] at hH); simp only [wp_bind, wp_fl, wp_sq, wp_out, wpO_ok, wpO_ex, wpF_nx, wpF_rt, wpF_ex, wpF_bk, wpF_ct, bP_ok, bP_ex, lP_ok, lP_ex, qP_nx, qP_rt, qP_ex, qP_bk, qP_ct, oP_rt, oP_nx, oP_ex, loopP_nx, loopP_ct, loopP_bk, loopP_rt, loopP_ex, tgP_ok, wp_try, tryP_nx, tryP_rt, tryP_ct, tryP_bk, offS_rt, offS_nx, br_t, br_f, e_var0, e_varS, e_c, e_bin, a_nil, a_cons, e_fn, e_tup, asB_bl, t_val, asT_bl, t_tru, t_not, t_and, t_or, e_if, e_and, e_or, e_not, e_chain, e_fld, e_con, e_bm, e_star, WL.Q.pe_lst, pe_dict0, pe_dict0K, pe_meth, meth1_ins, con1_ins, s_seq, s_drop, s_ret, s_if, s_next, s_retN, s_asg, s_for, g_nm, g_sub, s_raise, fn_w, out_rt, out_nx, out_ex, set0, setS, lt_ii, le_ii, gt_ii, ge_ii, sub_ii, add_ii, int_i, eq_ii, ne_ii, sub_ref, sub1_lst, sub1_insF, ixSeq0, ixSeq1, ixSeq2, ixSeq3, sub_tup, set_ref, pset_ek, pset_own, startW, List.map_cons, List.map_nil, List.length_cons, List.length_nil, List.replicate_succ, List.replicate_zero, List.cons_append, List.nil_append, Nat.reduceAdd, Nat.reduceSub, Nat.add_sub_cancel, decide_true, decide_false, Bool.not_true, Bool.not_false, List.length_append, List.set_cons_zero, List.set_cons_succ, Nat.reduceLT, Nat.reduceEqDiff, ↓reduceIte, Nat.zero_ne_one, Nat.one_ne_zero, app_ref, papp1, ty_ref, isL_lst, list_ref, plist1, s_fld, ins_ref, ins1_ins, ps_fld1, putW, fldOf, getW, g_tup2, not_non, not_str, nin_in, in_ref, in1_strs, in1_dT, in1_insF, len_ref1, len1_lst, List.length_map, Nat.zero_add, getD, pe_lc, pi_range1, range1_i, WL.Q.pi_seq, itemsR_ref, items1_lst, itemsR_tup, lenO_ref, lenO1_ins, natC_int, pe_is, isB_some, isR_tup, isR_int, isR_str, isR_bl, isR_non, isR_ref, isR1_lst, isR1_ins, WL.Q.pe_prop, prop1_ins, wp_noX, nP_ok, not_bl, is_non, is_str, is_bl, notnon_bl, isnon_bl, notnon_ref, isnon_ref, is_tg, not_tg, eq_bb, ne_bb, xi, dget_some, psub_ek, list_scr, list_tup, bind_ok, bind_ex, fl_ok, fl_ex, sq_nx, sq_rt, sq_ex, sq_bk, sq_ct, optE_none, optE_some, optI_int, slice_ref, slice1_lst, slice_tup, add_ref, add2_lst, tt_and, WL.Q.pe_slice, s_prop, sprop1_ins, notnon_tup, notnon_int, pi_any, WL.Q.pe_fmt, fmtR_some, WL.Q.pe_orT, orR_t, orR_f, tru_non, just8, just2, g_tup4, hH]; (try clear hH))
    exact kk _ _ _ (by simpa [dueCell, lineS] using H)
theorem exp_loop {g : G} {S : List (Nat × GO)} {ir off lr lN lA iN iA lx count wide ln : Nat} {refs : List Nat} {rows : List (List Cell)} {names acts : List Str} {ord : List Nat} {il : Nat} {o0 o1 o4 o5 o6 o9 o10 o11 o12 o13 o15 o16 o17 o18 : Option W} {P : Fl → Prop}
    (R : RowsIn S ir off lr refs rows) (ok : RowsOk count wide rows) (hNi : S[iN]? = some (lN, GO.lst (names.map W.str))) (hAi : S[iA]? = some (lA, GO.lst (acts.map W.str))) (hli : S[il]? = some (ln, GO.lst ((ord.map (nth names)).map W.str)))
    (hN : ∀ s ∈ names, Nm s) (nd : names.Nodup) (hnl : count ≤ names.length) (hA : ∀ s ∈ acts, Nm s) (hal : 4 ≤ acts.length) (ho : OrdOk count ord) (hc2 : count ≤ 16) (hw2 : wide ≤ 4)
    (H : Has g ((lx, GO.lst []) :: S))
    (kk : ∀ o12 o15 o16 o17 g', Has g' ((lx, GO.lst (dueL names acts rows wide ord)) :: S) → P (.nx [o0, o1, some (.ref lr), some (.int wide), o4, o5, o6, some (.ref lN), some (.ref lA), o9, o10, o11, o12, o13, some (.ref lx), o15, o16, o17, o18] g')) :
    wpF (forGo ⟨(ord.map (nth names)).map W.str, some ln⟩ (gNm 15) law_fb3 ((ord.map (nth names)).map W.str) [o0, o1, some (.ref lr), some (.int wide), o4, o5, o6, some (.ref lN), some (.ref lA), o9, o10, o11, o12, o13, some (.ref lx), o15, o16, o17, o18] g) P := by
  have hol := ho.len
  refine wp_for (J := ⟨(ord.map (nth names)).map W.str, some ln⟩) (fun i σ g => ∃ o12 o15 o16 o17, σ = [o0, o1, some (.ref lr), some (.int wide), o4, o5, o6, some (.ref lN), some (.ref lA), o9, o10, o11, o12, o13, some (.ref lx), o15, o16, o17, o18] ∧ Has g ((lx, GO.lst (dueL names acts rows wide (ord.take i))) :: S)) ⟨_, _, _, _, rfl, H⟩ (fun i σ g hI => ?_) (fun i w σ g hw hI => ?_) (fun σ g hI => ?_)
  · obtain ⟨_, _, _, _, _, H⟩ := hI
    exact decide_eq_true (H.2.2.get hli)
  · obtain ⟨o12, o15, o16, o17, rfl, H⟩ := hI
    have hw2' : ((ord.map (nth names)).map W.str)[i]? = some w := hw
    rw [List.map_map, List.getElem?_map, Option.map_eq_some_iff] at hw2'
    cases hw2' with
    | intro n hn2 =>
    have hni := hn2.1
    have hwe : W.str (nth names n) = w := hn2.2
    clear hn2
    subst hwe
    have hnc : n < count := ho.lt n (List.mem_of_getElem? hni)
    have htk : ord.take (i + 1) = ord.take i ++ [n] := by rw [List.take_add_one, hni]; rfl
    have hnl2 : n < rows.length := by rw [ok.len]; exact hnc
    have hrow := List.getElem?_eq_getElem hnl2
    have hwid : (rows[n]).length = wide := ok.wid _ (List.getElem_mem hnl2)
    generalize rows[n] = row at hrow hwid
    have hrr := R.ref hrow
    cases hrr with
    | intro r hrr2 =>
    have hr1 := hrr2.1
    have hr2 := hrr2.2
    clear hrr2
    have dl := dueL_len (names := names) (acts := acts) (rows := rows) (wide := wide) (ord.take i)
    have tl : (ord.take i).length ≤ 16 := Nat.le_trans (List.length_take_le' _ _) (by omega)
    have dl2 : (dueL names acts rows wide (ord.take i)).length ≤ 64 := Nat.le_trans dl (Nat.le_trans (Nat.mul_le_mul tl hw2) (by decide))
    ((try simp only [List.set_cons_zero, List.set_cons_succ, List.eraseIdx_cons_zero, List.eraseIdx_cons_succ, List.cons_append, List.nil_append] at H); have hH := H; (try simp only [has_cons, has_nil, dist_cons, dist_nil, ne_eq, and_true, true_and, List.set_cons_zero, List.set_cons_succ] at hH); simp only [wp_bind, wp_fl, wp_sq, wp_out, wpO_ok, wpO_ex, wpF_nx, wpF_rt, wpF_ex, wpF_bk, wpF_ct, bP_ok, bP_ex, lP_ok, lP_ex, qP_nx, qP_rt, qP_ex, qP_bk, qP_ct, oP_rt, oP_nx, oP_ex, loopP_nx, loopP_ct, loopP_bk, loopP_rt, loopP_ex, tgP_ok, wp_try, tryP_nx, tryP_rt, tryP_ct, tryP_bk, offS_rt, offS_nx, br_t, br_f, e_var0, e_varS, e_c, e_bin, a_nil, a_cons, e_fn, e_tup, asB_bl, t_val, asT_bl, t_tru, t_not, t_and, t_or, e_if, e_and, e_or, e_not, e_chain, e_fld, e_con, e_bm, e_star, WL.Q.pe_lst, pe_dict0, pe_dict0K, pe_meth, meth1_ins, con1_ins, s_seq, s_drop, s_ret, s_if, s_next, s_retN, s_asg, s_for, g_nm, g_sub, s_raise, fn_w, out_rt, out_nx, out_ex, set0, setS, lt_ii, le_ii, gt_ii, ge_ii, sub_ii, add_ii, int_i, eq_ii, ne_ii, sub_ref, sub1_lst, sub1_insF, ixSeq0, ixSeq1, ixSeq2, ixSeq3, sub_tup, set_ref, pset_ek, pset_own, startW, List.map_cons, List.map_nil, List.length_cons, List.length_nil, List.replicate_succ, List.replicate_zero, List.cons_append, List.nil_append, Nat.reduceAdd, Nat.reduceSub, Nat.add_sub_cancel, decide_true, decide_false, Bool.not_true, Bool.not_false, List.length_append, List.set_cons_zero, List.set_cons_succ, Nat.reduceLT, Nat.reduceEqDiff, ↓reduceIte, Nat.zero_ne_one, Nat.one_ne_zero, app_ref, papp1, ty_ref, isL_lst, list_ref, plist1, s_fld, ins_ref, ins1_ins, ps_fld1, putW, fldOf, getW, g_tup2, not_non, not_str, nin_in, in_ref, in1_strs, in1_dT, in1_insF, len_ref1, len1_lst, List.length_map, Nat.zero_add, getD, pe_lc, pi_range1, range1_i, WL.Q.pi_seq, itemsR_ref, items1_lst, itemsR_tup, lenO_ref, lenO1_ins, natC_int, pe_is, isB_some, isR_tup, isR_int, isR_str, isR_bl, isR_non, isR_ref, isR1_lst, isR1_ins, WL.Q.pe_prop, prop1_ins, wp_noX, nP_ok, not_bl, is_non, is_str, is_bl, notnon_bl, isnon_bl, notnon_ref, isnon_ref, is_tg, not_tg, eq_bb, ne_bb, xi, dget_some, psub_ek, list_scr, list_tup, bind_ok, bind_ex, fl_ok, fl_ex, sq_nx, sq_rt, sq_ex, sq_bk, sq_ct, optE_none, optE_some, optI_int, slice_ref, slice1_lst, slice_tup, add_ref, add2_lst, tt_and, WL.Q.pe_slice, s_prop, sprop1_ins, notnon_tup, notnon_int, pi_any, WL.Q.pe_fmt, fmtR_some, WL.Q.pe_orT, orR_t, orR_f, tru_non, just8, just2, g_tup4, hH]; (try clear hH))
    unfold law_fb3
    ((try simp only [List.set_cons_zero, List.set_cons_succ, List.eraseIdx_cons_zero, List.eraseIdx_cons_succ, List.cons_append, List.nil_append] at H); have hH := H; (try simp only [has_cons, has_nil, dist_cons, dist_nil, ne_eq, and_true, true_and, List.set_cons_zero, List.set_cons_succ] at hH); simp only [wp_bind, wp_fl, wp_sq, wp_out, wpO_ok, wpO_ex, wpF_nx, wpF_rt, wpF_ex, wpF_bk, wpF_ct, bP_ok, bP_ex, lP_ok, lP_ex, qP_nx, qP_rt, qP_ex, qP_bk, qP_ct, oP_rt, oP_nx, oP_ex, loopP_nx, loopP_ct, loopP_bk, loopP_rt, loopP_ex, tgP_ok, wp_try, tryP_nx, tryP_rt, tryP_ct, tryP_bk, offS_rt, offS_nx, br_t, br_f, e_var0, e_varS, e_c, e_bin, a_nil, a_cons, e_fn, e_tup, asB_bl, t_val, asT_bl, t_tru, t_not, t_and, t_or, e_if, e_and, e_or, e_not, e_chain, e_fld, e_con, e_bm, e_star, WL.Q.pe_lst, pe_dict0, pe_dict0K, pe_meth, meth1_ins, con1_ins, s_seq, s_drop, s_ret, s_if, s_next, s_retN, s_asg, s_for, g_nm, g_sub, s_raise, fn_w, out_rt, out_nx, out_ex, set0, setS, lt_ii, le_ii, gt_ii, ge_ii, sub_ii, add_ii, int_i, eq_ii, ne_ii, sub_ref, sub1_lst, sub1_insF, ixSeq0, ixSeq1, ixSeq2, ixSeq3, sub_tup, set_ref, pset_ek, pset_own, startW, List.map_cons, List.map_nil, List.length_cons, List.length_nil, List.replicate_succ, List.replicate_zero, List.cons_append, List.nil_append, Nat.reduceAdd, Nat.reduceSub, Nat.add_sub_cancel, decide_true, decide_false, Bool.not_true, Bool.not_false, List.length_append, List.set_cons_zero, List.set_cons_succ, Nat.reduceLT, Nat.reduceEqDiff, ↓reduceIte, Nat.zero_ne_one, Nat.one_ne_zero, app_ref, papp1, ty_ref, isL_lst, list_ref, plist1, s_fld, ins_ref, ins1_ins, ps_fld1, putW, fldOf, getW, g_tup2, not_non, not_str, nin_in, in_ref, in1_strs, in1_dT, in1_insF, len_ref1, len1_lst, List.length_map, Nat.zero_add, getD, pe_lc, pi_range1, range1_i, WL.Q.pi_seq, itemsR_ref, items1_lst, itemsR_tup, lenO_ref, lenO1_ins, natC_int, pe_is, isB_some, isR_tup, isR_int, isR_str, isR_bl, isR_non, isR_ref, isR1_lst, isR1_ins, WL.Q.pe_prop, prop1_ins, wp_noX, nP_ok, not_bl, is_non, is_str, is_bl, notnon_bl, isnon_bl, notnon_ref, isnon_ref, is_tg, not_tg, eq_bb, ne_bb, xi, dget_some, psub_ek, list_scr, list_tup, bind_ok, bind_ex, fl_ok, fl_ex, sq_nx, sq_rt, sq_ex, sq_bk, sq_ct, optE_none, optE_some, optI_int, slice_ref, slice1_lst, slice_tup, add_ref, add2_lst, tt_and, WL.Q.pe_slice, s_prop, sprop1_ins, notnon_tup, notnon_int, pi_any, WL.Q.pe_fmt, fmtR_some, WL.Q.pe_orT, orR_t, orR_f, tru_non, just8, just2, g_tup4, hH, small_nat (show wide ≤ 1000 by omega)]; (try clear hH))
    refine wp_for (J := rangeI 0 wide) (fun j σ g => ∃ o12 o16 o17, σ = [o0, o1, some (.ref lr), some (.int wide), o4, o5, o6, some (.ref lN), some (.ref lA), o9, o10, o11, o12, o13, some (.ref lx), some (.str (nth names n)), o16, o17, o18] ∧ Has g ((lx, GO.lst (dueL names acts rows wide (ord.take i) ++ dueRow names acts rows j n)) :: S)) ⟨_, _, _, rfl, by simpa [dueRow] using H⟩ (fun _ _ _ _ => rfl) (fun j w σ g hw hI => ?_) (fun σ g hI => ?_)
    · obtain ⟨o12, o16, o17, rfl, H⟩ := hI
      have hjr := range_get hw
      have hj := hjr.1
      have hwe := hjr.2
      clear hjr
      subst hwe
      have hjl : j < row.length := by omega
      have hcell := List.getElem?_eq_getElem hjl
      generalize row[j] = cell at hcell
      have hcok : CellOk count cell := ok.cell row (List.mem_of_getElem? hrow) cell (List.mem_of_getElem? hcell)
      have hat : cellAt rows n j = cell := cellAt_of hrow hcell
      have rl := dueRow_len (names := names) (acts := acts) (rows := rows) (wide := j) (k := n)
      ((try simp only [List.set_cons_zero, List.set_cons_succ, List.eraseIdx_cons_zero, List.eraseIdx_cons_succ, List.cons_append, List.nil_append] at H); have hH := H; (try simp only [has_cons, has_nil, dist_cons, dist_nil, ne_eq, and_true, true_and, List.set_cons_zero, List.set_cons_succ] at hH); simp only [wp_bind, wp_fl, wp_sq, wp_out, wpO_ok, wpO_ex, wpF_nx, wpF_rt, wpF_ex, wpF_bk, wpF_ct, bP_ok, bP_ex, lP_ok, lP_ex, qP_nx, qP_rt, qP_ex, qP_bk, qP_ct, oP_rt, oP_nx, oP_ex, loopP_nx, loopP_ct, loopP_bk, loopP_rt, loopP_ex, tgP_ok, wp_try, tryP_nx, tryP_rt, tryP_ct, tryP_bk, offS_rt, offS_nx, br_t, br_f, e_var0, e_varS, e_c, e_bin, a_nil, a_cons, e_fn, e_tup, asB_bl, t_val, asT_bl, t_tru, t_not, t_and, t_or, e_if, e_and, e_or, e_not, e_chain, e_fld, e_con, e_bm, e_star, WL.Q.pe_lst, pe_dict0, pe_dict0K, pe_meth, meth1_ins, con1_ins, s_seq, s_drop, s_ret, s_if, s_next, s_retN, s_asg, s_for, g_nm, g_sub, s_raise, fn_w, out_rt, out_nx, out_ex, set0, setS, lt_ii, le_ii, gt_ii, ge_ii, sub_ii, add_ii, int_i, eq_ii, ne_ii, sub_ref, sub1_lst, sub1_insF, ixSeq0, ixSeq1, ixSeq2, ixSeq3, sub_tup, set_ref, pset_ek, pset_own, startW, List.map_cons, List.map_nil, List.length_cons, List.length_nil, List.replicate_succ, List.replicate_zero, List.cons_append, List.nil_append, Nat.reduceAdd, Nat.reduceSub, Nat.add_sub_cancel, decide_true, decide_false, Bool.not_true, Bool.not_false, List.length_append, List.set_cons_zero, List.set_cons_succ, Nat.reduceLT, Nat.reduceEqDiff, ↓reduceIte, Nat.zero_ne_one, Nat.one_ne_zero, app_ref, papp1, ty_ref, isL_lst, list_ref, plist1, s_fld, ins_ref, ins1_ins, ps_fld1, putW, fldOf, getW, g_tup2, not_non, not_str, nin_in, in_ref, in1_strs, in1_dT, in1_insF, len_ref1, len1_lst, List.length_map, Nat.zero_add, getD, pe_lc, pi_range1, range1_i, WL.Q.pi_seq, itemsR_ref, items1_lst, itemsR_tup, lenO_ref, lenO1_ins, natC_int, pe_is, isB_some, isR_tup, isR_int, isR_str, isR_bl, isR_non, isR_ref, isR1_lst, isR1_ins, WL.Q.pe_prop, prop1_ins, wp_noX, nP_ok, not_bl, is_non, is_str, is_bl, notnon_bl, isnon_bl, notnon_ref, isnon_ref, is_tg, not_tg, eq_bb, ne_bb, xi, dget_some, psub_ek, list_scr, list_tup, bind_ok, bind_ex, fl_ok, fl_ex, sq_nx, sq_rt, sq_ex, sq_bk, sq_ct, optE_none, optE_some, optI_int, slice_ref, slice1_lst, slice_tup, add_ref, add2_lst, tt_and, WL.Q.pe_slice, s_prop, sprop1_ins, notnon_tup, notnon_int, pi_any, WL.Q.pe_fmt, fmtR_some, WL.Q.pe_orT, orR_t, orR_f, tru_non, just8, just2, g_tup4, hH]; (try clear hH))
      refine exp_step R hr1 hr2 hcell hcok hNi hAi hN nd hnl hA hal hnc (by omega) (by rw [List.length_append]; omega) H fun o12 o17 g' H => ?_
      rw [loopP_nx]
      refine ⟨_, _, _, rfl, ?_⟩
      have er : dueRow names acts rows (j + 1) n = dueRow names acts rows j n ++ (dueCell names acts n j cell).toList := by
        unfold dueRow
        rw [List.range_succ, List.filterMap_append, List.filterMap_cons, hat]
        cases dueCell names acts n j cell <;> rfl
      rw [er, ← List.append_assoc]
      exact H
    · obtain ⟨o12, o16, o17, rfl, H⟩ := hI
      rw [range_len] at H
      rw [loopP_nx]
      refine ⟨_, _, _, _, rfl, ?_⟩
      rw [htk]
      have : dueL names acts rows wide (ord.take i ++ [n]) = dueL names acts rows wide (ord.take i) ++ dueRow names acts rows wide n := by
        unfold dueL
        rw [List.flatMap_append]
        simp
      rw [this]
      exact H
  · obtain ⟨o12, o15, o16, o17, rfl, H⟩ := hI
    dsimp only at H
    rw [List.length_map, List.length_map, List.take_length] at H
    exact kk _ _ _ _ _ H
theorem law_true (ns : List Int) (hns : ns.length ≤ 63) : ∃ g, f_law [.scr ns] [] = .ok (.bl true) g := by
  show wpO (f_law [.scr ns] []) (fun r => ∃ g, r = .ok (.bl true) g)
  have H : Has [] [] := True.intro
  unfold f_law m_law
  ((try simp only [List.set_cons_zero, List.set_cons_succ, List.eraseIdx_cons_zero, List.eraseIdx_cons_succ, List.cons_append, List.nil_append] at H); have hH := H; (try simp only [has_cons, has_nil, dist_cons, dist_nil, ne_eq, and_true, true_and, List.set_cons_zero, List.set_cons_succ] at hH); simp only [wp_bind, wp_fl, wp_sq, wp_out, wpO_ok, wpO_ex, wpF_nx, wpF_rt, wpF_ex, wpF_bk, wpF_ct, bP_ok, bP_ex, lP_ok, lP_ex, qP_nx, qP_rt, qP_ex, qP_bk, qP_ct, oP_rt, oP_nx, oP_ex, loopP_nx, loopP_ct, loopP_bk, loopP_rt, loopP_ex, tgP_ok, wp_try, tryP_nx, tryP_rt, tryP_ct, tryP_bk, offS_rt, offS_nx, br_t, br_f, e_var0, e_varS, e_c, e_bin, a_nil, a_cons, e_fn, e_tup, asB_bl, t_val, asT_bl, t_tru, t_not, t_and, t_or, e_if, e_and, e_or, e_not, e_chain, e_fld, e_con, e_bm, e_star, WL.Q.pe_lst, pe_dict0, pe_dict0K, pe_meth, meth1_ins, con1_ins, s_seq, s_drop, s_ret, s_if, s_next, s_retN, s_asg, s_for, g_nm, g_sub, s_raise, fn_w, out_rt, out_nx, out_ex, set0, setS, lt_ii, le_ii, gt_ii, ge_ii, sub_ii, add_ii, int_i, eq_ii, ne_ii, sub_ref, sub1_lst, sub1_insF, ixSeq0, ixSeq1, ixSeq2, ixSeq3, sub_tup, set_ref, pset_ek, pset_own, startW, List.map_cons, List.map_nil, List.length_cons, List.length_nil, List.replicate_succ, List.replicate_zero, List.cons_append, List.nil_append, Nat.reduceAdd, Nat.reduceSub, Nat.add_sub_cancel, decide_true, decide_false, Bool.not_true, Bool.not_false, List.length_append, List.set_cons_zero, List.set_cons_succ, Nat.reduceLT, Nat.reduceEqDiff, ↓reduceIte, Nat.zero_ne_one, Nat.one_ne_zero, app_ref, papp1, ty_ref, isL_lst, list_ref, plist1, s_fld, ins_ref, ins1_ins, ps_fld1, putW, fldOf, getW, g_tup2, not_non, not_str, nin_in, in_ref, in1_strs, in1_dT, in1_insF, len_ref1, len1_lst, List.length_map, Nat.zero_add, getD, pe_lc, pi_range1, range1_i, WL.Q.pi_seq, itemsR_ref, items1_lst, itemsR_tup, lenO_ref, lenO1_ins, natC_int, pe_is, isB_some, isR_tup, isR_int, isR_str, isR_bl, isR_non, isR_ref, isR1_lst, isR1_ins, WL.Q.pe_prop, prop1_ins, wp_noX, nP_ok, not_bl, is_non, is_str, is_bl, notnon_bl, isnon_bl, notnon_ref, isnon_ref, is_tg, not_tg, eq_bb, ne_bb, xi, dget_some, psub_ek, list_scr, list_tup, bind_ok, bind_ex, fl_ok, fl_ex, sq_nx, sq_rt, sq_ex, sq_bk, sq_ct, optE_none, optE_some, optI_int, slice_ref, slice1_lst, slice_tup, add_ref, add2_lst, tt_and, WL.Q.pe_slice, s_prop, sprop1_ins, notnon_tup, notnon_int, pi_any, WL.Q.pe_fmt, fmtR_some, WL.Q.pe_orT, orR_t, orR_f, tru_non, just8, just2, g_tup4, hH]; (try clear hH))
  refine wp_alloc H fun q g H => ?_
  ((try simp only [List.set_cons_zero, List.set_cons_succ, List.eraseIdx_cons_zero, List.eraseIdx_cons_succ, List.cons_append, List.nil_append] at H); have hH := H; (try simp only [has_cons, has_nil, dist_cons, dist_nil, ne_eq, and_true, true_and, List.set_cons_zero, List.set_cons_succ] at hH); simp only [wp_bind, wp_fl, wp_sq, wp_out, wpO_ok, wpO_ex, wpF_nx, wpF_rt, wpF_ex, wpF_bk, wpF_ct, bP_ok, bP_ex, lP_ok, lP_ex, qP_nx, qP_rt, qP_ex, qP_bk, qP_ct, oP_rt, oP_nx, oP_ex, loopP_nx, loopP_ct, loopP_bk, loopP_rt, loopP_ex, tgP_ok, wp_try, tryP_nx, tryP_rt, tryP_ct, tryP_bk, offS_rt, offS_nx, br_t, br_f, e_var0, e_varS, e_c, e_bin, a_nil, a_cons, e_fn, e_tup, asB_bl, t_val, asT_bl, t_tru, t_not, t_and, t_or, e_if, e_and, e_or, e_not, e_chain, e_fld, e_con, e_bm, e_star, WL.Q.pe_lst, pe_dict0, pe_dict0K, pe_meth, meth1_ins, con1_ins, s_seq, s_drop, s_ret, s_if, s_next, s_retN, s_asg, s_for, g_nm, g_sub, s_raise, fn_w, out_rt, out_nx, out_ex, set0, setS, lt_ii, le_ii, gt_ii, ge_ii, sub_ii, add_ii, int_i, eq_ii, ne_ii, sub_ref, sub1_lst, sub1_insF, ixSeq0, ixSeq1, ixSeq2, ixSeq3, sub_tup, set_ref, pset_ek, pset_own, startW, List.map_cons, List.map_nil, List.length_cons, List.length_nil, List.replicate_succ, List.replicate_zero, List.cons_append, List.nil_append, Nat.reduceAdd, Nat.reduceSub, Nat.add_sub_cancel, decide_true, decide_false, Bool.not_true, Bool.not_false, List.length_append, List.set_cons_zero, List.set_cons_succ, Nat.reduceLT, Nat.reduceEqDiff, ↓reduceIte, Nat.zero_ne_one, Nat.one_ne_zero, app_ref, papp1, ty_ref, isL_lst, list_ref, plist1, s_fld, ins_ref, ins1_ins, ps_fld1, putW, fldOf, getW, g_tup2, not_non, not_str, nin_in, in_ref, in1_strs, in1_dT, in1_insF, len_ref1, len1_lst, List.length_map, Nat.zero_add, getD, pe_lc, pi_range1, range1_i, WL.Q.pi_seq, itemsR_ref, items1_lst, itemsR_tup, lenO_ref, lenO1_ins, natC_int, pe_is, isB_some, isR_tup, isR_int, isR_str, isR_bl, isR_non, isR_ref, isR1_lst, isR1_ins, WL.Q.pe_prop, prop1_ins, wp_noX, nP_ok, not_bl, is_non, is_str, is_bl, notnon_bl, isnon_bl, notnon_ref, isnon_ref, is_tg, not_tg, eq_bb, ne_bb, xi, dget_some, psub_ek, list_scr, list_tup, bind_ok, bind_ex, fl_ok, fl_ex, sq_nx, sq_rt, sq_ex, sq_bk, sq_ct, optE_none, optE_some, optI_int, slice_ref, slice1_lst, slice_tup, add_ref, add2_lst, tt_and, WL.Q.pe_slice, s_prop, sprop1_ins, notnon_tup, notnon_int, pi_any, WL.Q.pe_fmt, fmtR_some, WL.Q.pe_orT, orR_t, orR_f, tru_non, just8, just2, g_tup4, hH, fits4]; (try clear hH))
  refine wp_alloc H fun p g H => ?_
  ((try simp only [List.set_cons_zero, List.set_cons_succ, List.eraseIdx_cons_zero, List.eraseIdx_cons_succ, List.cons_append, List.nil_append] at H); have hH := H; (try simp only [has_cons, has_nil, dist_cons, dist_nil, ne_eq, and_true, true_and, List.set_cons_zero, List.set_cons_succ] at hH); simp only [wp_bind, wp_fl, wp_sq, wp_out, wpO_ok, wpO_ex, wpF_nx, wpF_rt, wpF_ex, wpF_bk, wpF_ct, bP_ok, bP_ex, lP_ok, lP_ex, qP_nx, qP_rt, qP_ex, qP_bk, qP_ct, oP_rt, oP_nx, oP_ex, loopP_nx, loopP_ct, loopP_bk, loopP_rt, loopP_ex, tgP_ok, wp_try, tryP_nx, tryP_rt, tryP_ct, tryP_bk, offS_rt, offS_nx, br_t, br_f, e_var0, e_varS, e_c, e_bin, a_nil, a_cons, e_fn, e_tup, asB_bl, t_val, asT_bl, t_tru, t_not, t_and, t_or, e_if, e_and, e_or, e_not, e_chain, e_fld, e_con, e_bm, e_star, WL.Q.pe_lst, pe_dict0, pe_dict0K, pe_meth, meth1_ins, con1_ins, s_seq, s_drop, s_ret, s_if, s_next, s_retN, s_asg, s_for, g_nm, g_sub, s_raise, fn_w, out_rt, out_nx, out_ex, set0, setS, lt_ii, le_ii, gt_ii, ge_ii, sub_ii, add_ii, int_i, eq_ii, ne_ii, sub_ref, sub1_lst, sub1_insF, ixSeq0, ixSeq1, ixSeq2, ixSeq3, sub_tup, set_ref, pset_ek, pset_own, startW, List.map_cons, List.map_nil, List.length_cons, List.length_nil, List.replicate_succ, List.replicate_zero, List.cons_append, List.nil_append, Nat.reduceAdd, Nat.reduceSub, Nat.add_sub_cancel, decide_true, decide_false, Bool.not_true, Bool.not_false, List.length_append, List.set_cons_zero, List.set_cons_succ, Nat.reduceLT, Nat.reduceEqDiff, ↓reduceIte, Nat.zero_ne_one, Nat.one_ne_zero, app_ref, papp1, ty_ref, isL_lst, list_ref, plist1, s_fld, ins_ref, ins1_ins, ps_fld1, putW, fldOf, getW, g_tup2, not_non, not_str, nin_in, in_ref, in1_strs, in1_dT, in1_insF, len_ref1, len1_lst, List.length_map, Nat.zero_add, getD, pe_lc, pi_range1, range1_i, WL.Q.pi_seq, itemsR_ref, items1_lst, itemsR_tup, lenO_ref, lenO1_ins, natC_int, pe_is, isB_some, isR_tup, isR_int, isR_str, isR_bl, isR_non, isR_ref, isR1_lst, isR1_ins, WL.Q.pe_prop, prop1_ins, wp_noX, nP_ok, not_bl, is_non, is_str, is_bl, notnon_bl, isnon_bl, notnon_ref, isnon_ref, is_tg, not_tg, eq_bb, ne_bb, xi, dget_some, psub_ek, list_scr, list_tup, bind_ok, bind_ex, fl_ok, fl_ex, sq_nx, sq_rt, sq_ex, sq_bk, sq_ct, optE_none, optE_some, optI_int, slice_ref, slice1_lst, slice_tup, add_ref, add2_lst, tt_and, WL.Q.pe_slice, s_prop, sprop1_ins, notnon_tup, notnon_int, pi_any, WL.Q.pe_fmt, fmtR_some, WL.Q.pe_orT, orR_t, orR_f, tru_non, just8, just2, g_tup4, hH]; (try clear hH))
  refine sp_rows (most := 10) (edges := 30) H 0 rfl 1 rfl .mk0 (by decide) (by decide) (by decide) (by decide) (by decide) fun wide count rows refs o lr g hw1 hw4 hc1 hc2 hce ok hfull hrl ho H => ?_
  have h0l : 0 < rows.length := by rw [ok.len]; omega
  have hr0 := RowsIn.ref (RowsIn.mk' (S' := [(lr, GO.lst (refs.map .ref)), (p, o), (q, .lst (ns.map .int))]) (ir := 0) rfl (hrl.trans ok.len.symm) rfl) (List.getElem?_eq_getElem h0l)
  have w0 : (rows[0]).length = wide := ok.wid _ (List.getElem_mem h0l)
  generalize rows[0] = row0 at hr0 w0
  cases hr0 with
  | intro r0 hr02 =>
  have h0a := hr02.1
  have h0b := hr02.2
  clear hr02
  have e0 : ixSeq (refs.map W.ref) (.int 0) g = Out.ok (.ref r0) g := ix_refs (k := 0) h0a
  ((try simp only [List.set_cons_zero, List.set_cons_succ, List.eraseIdx_cons_zero, List.eraseIdx_cons_succ, List.cons_append, List.nil_append] at H); have hH := H; (try simp only [has_cons, has_nil, dist_cons, dist_nil, ne_eq, and_true, true_and, List.set_cons_zero, List.set_cons_succ] at hH); simp only [wp_bind, wp_fl, wp_sq, wp_out, wpO_ok, wpO_ex, wpF_nx, wpF_rt, wpF_ex, wpF_bk, wpF_ct, bP_ok, bP_ex, lP_ok, lP_ex, qP_nx, qP_rt, qP_ex, qP_bk, qP_ct, oP_rt, oP_nx, oP_ex, loopP_nx, loopP_ct, loopP_bk, loopP_rt, loopP_ex, tgP_ok, wp_try, tryP_nx, tryP_rt, tryP_ct, tryP_bk, offS_rt, offS_nx, br_t, br_f, e_var0, e_varS, e_c, e_bin, a_nil, a_cons, e_fn, e_tup, asB_bl, t_val, asT_bl, t_tru, t_not, t_and, t_or, e_if, e_and, e_or, e_not, e_chain, e_fld, e_con, e_bm, e_star, WL.Q.pe_lst, pe_dict0, pe_dict0K, pe_meth, meth1_ins, con1_ins, s_seq, s_drop, s_ret, s_if, s_next, s_retN, s_asg, s_for, g_nm, g_sub, s_raise, fn_w, out_rt, out_nx, out_ex, set0, setS, lt_ii, le_ii, gt_ii, ge_ii, sub_ii, add_ii, int_i, eq_ii, ne_ii, sub_ref, sub1_lst, sub1_insF, ixSeq0, ixSeq1, ixSeq2, ixSeq3, sub_tup, set_ref, pset_ek, pset_own, startW, List.map_cons, List.map_nil, List.length_cons, List.length_nil, List.replicate_succ, List.replicate_zero, List.cons_append, List.nil_append, Nat.reduceAdd, Nat.reduceSub, Nat.add_sub_cancel, decide_true, decide_false, Bool.not_true, Bool.not_false, List.length_append, List.set_cons_zero, List.set_cons_succ, Nat.reduceLT, Nat.reduceEqDiff, ↓reduceIte, Nat.zero_ne_one, Nat.one_ne_zero, app_ref, papp1, ty_ref, isL_lst, list_ref, plist1, s_fld, ins_ref, ins1_ins, ps_fld1, putW, fldOf, getW, g_tup2, not_non, not_str, nin_in, in_ref, in1_strs, in1_dT, in1_insF, len_ref1, len1_lst, List.length_map, Nat.zero_add, getD, pe_lc, pi_range1, range1_i, WL.Q.pi_seq, itemsR_ref, items1_lst, itemsR_tup, lenO_ref, lenO1_ins, natC_int, pe_is, isB_some, isR_tup, isR_int, isR_str, isR_bl, isR_non, isR_ref, isR1_lst, isR1_ins, WL.Q.pe_prop, prop1_ins, wp_noX, nP_ok, not_bl, is_non, is_str, is_bl, notnon_bl, isnon_bl, notnon_ref, isnon_ref, is_tg, not_tg, eq_bb, ne_bb, xi, dget_some, psub_ek, list_scr, list_tup, bind_ok, bind_ex, fl_ok, fl_ex, sq_nx, sq_rt, sq_ex, sq_bk, sq_ct, optE_none, optE_some, optI_int, slice_ref, slice1_lst, slice_tup, add_ref, add2_lst, tt_and, WL.Q.pe_slice, s_prop, sprop1_ins, notnon_tup, notnon_int, pi_any, WL.Q.pe_fmt, fmtR_some, WL.Q.pe_orT, orR_t, orR_f, tru_non, just8, just2, g_tup4, hH, e0, (H.get h0b).trans row_eq, w0]; (try clear hH))
  refine sp_draw H 1 rfl 2 rfl ho (by decide) (by decide) fun d1 o g hd1 ho H => ?_
  ((try simp only [List.set_cons_zero, List.set_cons_succ, List.eraseIdx_cons_zero, List.eraseIdx_cons_succ, List.cons_append, List.nil_append] at H); have hH := H; (try simp only [has_cons, has_nil, dist_cons, dist_nil, ne_eq, and_true, true_and, List.set_cons_zero, List.set_cons_succ] at hH); simp only [wp_bind, wp_fl, wp_sq, wp_out, wpO_ok, wpO_ex, wpF_nx, wpF_rt, wpF_ex, wpF_bk, wpF_ct, bP_ok, bP_ex, lP_ok, lP_ex, qP_nx, qP_rt, qP_ex, qP_bk, qP_ct, oP_rt, oP_nx, oP_ex, loopP_nx, loopP_ct, loopP_bk, loopP_rt, loopP_ex, tgP_ok, wp_try, tryP_nx, tryP_rt, tryP_ct, tryP_bk, offS_rt, offS_nx, br_t, br_f, e_var0, e_varS, e_c, e_bin, a_nil, a_cons, e_fn, e_tup, asB_bl, t_val, asT_bl, t_tru, t_not, t_and, t_or, e_if, e_and, e_or, e_not, e_chain, e_fld, e_con, e_bm, e_star, WL.Q.pe_lst, pe_dict0, pe_dict0K, pe_meth, meth1_ins, con1_ins, s_seq, s_drop, s_ret, s_if, s_next, s_retN, s_asg, s_for, g_nm, g_sub, s_raise, fn_w, out_rt, out_nx, out_ex, set0, setS, lt_ii, le_ii, gt_ii, ge_ii, sub_ii, add_ii, int_i, eq_ii, ne_ii, sub_ref, sub1_lst, sub1_insF, ixSeq0, ixSeq1, ixSeq2, ixSeq3, sub_tup, set_ref, pset_ek, pset_own, startW, List.map_cons, List.map_nil, List.length_cons, List.length_nil, List.replicate_succ, List.replicate_zero, List.cons_append, List.nil_append, Nat.reduceAdd, Nat.reduceSub, Nat.add_sub_cancel, decide_true, decide_false, Bool.not_true, Bool.not_false, List.length_append, List.set_cons_zero, List.set_cons_succ, Nat.reduceLT, Nat.reduceEqDiff, ↓reduceIte, Nat.zero_ne_one, Nat.one_ne_zero, app_ref, papp1, ty_ref, isL_lst, list_ref, plist1, s_fld, ins_ref, ins1_ins, ps_fld1, putW, fldOf, getW, g_tup2, not_non, not_str, nin_in, in_ref, in1_strs, in1_dT, in1_insF, len_ref1, len1_lst, List.length_map, Nat.zero_add, getD, pe_lc, pi_range1, range1_i, WL.Q.pi_seq, itemsR_ref, items1_lst, itemsR_tup, lenO_ref, lenO1_ins, natC_int, pe_is, isB_some, isR_tup, isR_int, isR_str, isR_bl, isR_non, isR_ref, isR1_lst, isR1_ins, WL.Q.pe_prop, prop1_ins, wp_noX, nP_ok, not_bl, is_non, is_str, is_bl, notnon_bl, isnon_bl, notnon_ref, isnon_ref, is_tg, not_tg, eq_bb, ne_bb, xi, dget_some, psub_ek, list_scr, list_tup, bind_ok, bind_ex, fl_ok, fl_ex, sq_nx, sq_rt, sq_ex, sq_bk, sq_ct, optE_none, optE_some, optI_int, slice_ref, slice1_lst, slice_tup, add_ref, add2_lst, tt_and, WL.Q.pe_slice, s_prop, sprop1_ins, notnon_tup, notnon_int, pi_any, WL.Q.pe_fmt, fmtR_some, WL.Q.pe_orT, orR_t, orR_f, tru_non, just8, just2, g_tup4, hH, small_nat (show d1 ≤ 1000 by omega)]; (try clear hH))
  refine wp_for (J := rangeI 0 d1) (fun i σ g => ∃ o4 o5 o6 refs rows o, σ = [some (.scr ns), some (.ref p), some (.ref lr), some (.int wide), o4, o5, o6] ++ List.replicate 12 none ∧ RowsOk count wide rows ∧ refs.length = count ∧ PoolOk q ns o ∧ Has g ([(lr, GO.lst (refs.map .ref)), (p, o), (q, .lst (ns.map .int))] ++ rowsPart refs rows))
    ⟨none, none, none, refs, rows, o, rfl, ok, hrl, ho, H⟩ (fun _ _ _ _ => rfl) (fun i w σ g hw hI => ?_) (fun σ g hI => ?_)
  · obtain ⟨o4, o5, o6, refs, rows, o, rfl, ok, hrl, ho, H⟩ := hI
    have hir := range_get hw
    have hwe := hir.2
    clear hir
    subst hwe
    show wpO (gNm 4 (.int i) ([some (.scr ns), some (.ref p), some (.ref lr), some (.int wide), o4, o5, o6] ++ List.replicate 12 none) g) _
    have e : gNm 4 (.int (i : Nat)) ([some (.scr ns), some (.ref p), some (.ref lr), some (.int wide), o4, o5, o6] ++ List.replicate 12 none) g = .ok ([some (.scr ns), some (.ref p), some (.ref lr), some (.int wide), some (.int (i : Nat)), o5, o6] ++ List.replicate 12 none) g := rfl
    rw [e, wpO_ok, tgP_ok]
    refine resets hc1 (by omega) hw1 hw4 ok hrl ho H fun o5 o6 refs rows o g' ok hrl ho H => ?_
    rw [loopP_nx]
    exact ⟨_, _, _, refs, rows, o, rfl, ok, hrl, ho, H⟩
  · obtain ⟨o4, o5, o6, refs, rows, o, rfl, ok, hrl, ho, H⟩ := hI
    clear e0 h0a h0b
    unfold law_r8
    ((try simp only [List.set_cons_zero, List.set_cons_succ, List.eraseIdx_cons_zero, List.eraseIdx_cons_succ, List.cons_append, List.nil_append] at H); have hH := H; (try simp only [has_cons, has_nil, dist_cons, dist_nil, ne_eq, and_true, true_and, List.set_cons_zero, List.set_cons_succ] at hH); simp only [wp_bind, wp_fl, wp_sq, wp_out, wpO_ok, wpO_ex, wpF_nx, wpF_rt, wpF_ex, wpF_bk, wpF_ct, bP_ok, bP_ex, lP_ok, lP_ex, qP_nx, qP_rt, qP_ex, qP_bk, qP_ct, oP_rt, oP_nx, oP_ex, loopP_nx, loopP_ct, loopP_bk, loopP_rt, loopP_ex, tgP_ok, wp_try, tryP_nx, tryP_rt, tryP_ct, tryP_bk, offS_rt, offS_nx, br_t, br_f, e_var0, e_varS, e_c, e_bin, a_nil, a_cons, e_fn, e_tup, asB_bl, t_val, asT_bl, t_tru, t_not, t_and, t_or, e_if, e_and, e_or, e_not, e_chain, e_fld, e_con, e_bm, e_star, WL.Q.pe_lst, pe_dict0, pe_dict0K, pe_meth, meth1_ins, con1_ins, s_seq, s_drop, s_ret, s_if, s_next, s_retN, s_asg, s_for, g_nm, g_sub, s_raise, fn_w, out_rt, out_nx, out_ex, set0, setS, lt_ii, le_ii, gt_ii, ge_ii, sub_ii, add_ii, int_i, eq_ii, ne_ii, sub_ref, sub1_lst, sub1_insF, ixSeq0, ixSeq1, ixSeq2, ixSeq3, sub_tup, set_ref, pset_ek, pset_own, startW, List.map_cons, List.map_nil, List.length_cons, List.length_nil, List.replicate_succ, List.replicate_zero, List.cons_append, List.nil_append, Nat.reduceAdd, Nat.reduceSub, Nat.add_sub_cancel, decide_true, decide_false, Bool.not_true, Bool.not_false, List.length_append, List.set_cons_zero, List.set_cons_succ, Nat.reduceLT, Nat.reduceEqDiff, ↓reduceIte, Nat.zero_ne_one, Nat.one_ne_zero, app_ref, papp1, ty_ref, isL_lst, list_ref, plist1, s_fld, ins_ref, ins1_ins, ps_fld1, putW, fldOf, getW, g_tup2, not_non, not_str, nin_in, in_ref, in1_strs, in1_dT, in1_insF, len_ref1, len1_lst, List.length_map, Nat.zero_add, getD, pe_lc, pi_range1, range1_i, WL.Q.pi_seq, itemsR_ref, items1_lst, itemsR_tup, lenO_ref, lenO1_ins, natC_int, pe_is, isB_some, isR_tup, isR_int, isR_str, isR_bl, isR_non, isR_ref, isR1_lst, isR1_ins, WL.Q.pe_prop, prop1_ins, wp_noX, nP_ok, not_bl, is_non, is_str, is_bl, notnon_bl, isnon_bl, notnon_ref, isnon_ref, is_tg, not_tg, eq_bb, ne_bb, xi, dget_some, psub_ek, list_scr, list_tup, bind_ok, bind_ex, fl_ok, fl_ex, sq_nx, sq_rt, sq_ex, sq_bk, sq_ct, optE_none, optE_some, optI_int, slice_ref, slice1_lst, slice_tup, add_ref, add2_lst, tt_and, WL.Q.pe_slice, s_prop, sprop1_ins, notnon_tup, notnon_int, pi_any, WL.Q.pe_fmt, fmtR_some, WL.Q.pe_orT, orR_t, orR_f, tru_non, just8, just2, g_tup4, hH, hrl]; (try clear hH))
    refine sp_words (n := count) H 1 rfl 2 rfl ho (by decide) (by omega) fun f1 g1 s1 o lN g hg1 hg2 hf1 hs1 ho H => ?_
    ((try simp only [List.set_cons_zero, List.set_cons_succ, List.eraseIdx_cons_zero, List.eraseIdx_cons_succ, List.cons_append, List.nil_append] at H); have hH := H; (try simp only [has_cons, has_nil, dist_cons, dist_nil, ne_eq, and_true, true_and, List.set_cons_zero, List.set_cons_succ] at hH); simp only [wp_bind, wp_fl, wp_sq, wp_out, wpO_ok, wpO_ex, wpF_nx, wpF_rt, wpF_ex, wpF_bk, wpF_ct, bP_ok, bP_ex, lP_ok, lP_ex, qP_nx, qP_rt, qP_ex, qP_bk, qP_ct, oP_rt, oP_nx, oP_ex, loopP_nx, loopP_ct, loopP_bk, loopP_rt, loopP_ex, tgP_ok, wp_try, tryP_nx, tryP_rt, tryP_ct, tryP_bk, offS_rt, offS_nx, br_t, br_f, e_var0, e_varS, e_c, e_bin, a_nil, a_cons, e_fn, e_tup, asB_bl, t_val, asT_bl, t_tru, t_not, t_and, t_or, e_if, e_and, e_or, e_not, e_chain, e_fld, e_con, e_bm, e_star, WL.Q.pe_lst, pe_dict0, pe_dict0K, pe_meth, meth1_ins, con1_ins, s_seq, s_drop, s_ret, s_if, s_next, s_retN, s_asg, s_for, g_nm, g_sub, s_raise, fn_w, out_rt, out_nx, out_ex, set0, setS, lt_ii, le_ii, gt_ii, ge_ii, sub_ii, add_ii, int_i, eq_ii, ne_ii, sub_ref, sub1_lst, sub1_insF, ixSeq0, ixSeq1, ixSeq2, ixSeq3, sub_tup, set_ref, pset_ek, pset_own, startW, List.map_cons, List.map_nil, List.length_cons, List.length_nil, List.replicate_succ, List.replicate_zero, List.cons_append, List.nil_append, Nat.reduceAdd, Nat.reduceSub, Nat.add_sub_cancel, decide_true, decide_false, Bool.not_true, Bool.not_false, List.length_append, List.set_cons_zero, List.set_cons_succ, Nat.reduceLT, Nat.reduceEqDiff, ↓reduceIte, Nat.zero_ne_one, Nat.one_ne_zero, app_ref, papp1, ty_ref, isL_lst, list_ref, plist1, s_fld, ins_ref, ins1_ins, ps_fld1, putW, fldOf, getW, g_tup2, not_non, not_str, nin_in, in_ref, in1_strs, in1_dT, in1_insF, len_ref1, len1_lst, List.length_map, Nat.zero_add, getD, pe_lc, pi_range1, range1_i, WL.Q.pi_seq, itemsR_ref, items1_lst, itemsR_tup, lenO_ref, lenO1_ins, natC_int, pe_is, isB_some, isR_tup, isR_int, isR_str, isR_bl, isR_non, isR_ref, isR1_lst, isR1_ins, WL.Q.pe_prop, prop1_ins, wp_noX, nP_ok, not_bl, is_non, is_str, is_bl, notnon_bl, isnon_bl, notnon_ref, isnon_ref, is_tg, not_tg, eq_bb, ne_bb, xi, dget_some, psub_ek, list_scr, list_tup, bind_ok, bind_ex, fl_ok, fl_ex, sq_nx, sq_rt, sq_ex, sq_bk, sq_ct, optE_none, optE_some, optI_int, slice_ref, slice1_lst, slice_tup, add_ref, add2_lst, tt_and, WL.Q.pe_slice, s_prop, sprop1_ins, notnon_tup, notnon_int, pi_any, WL.Q.pe_fmt, fmtR_some, WL.Q.pe_orT, orR_t, orR_f, tru_non, just8, just2, g_tup4, hH]; (try clear hH))
    refine sp_words (n := 4) H 2 rfl 3 rfl ho (by decide) (by omega) fun f2 g2 s2 o lA g hh1 hh2 hf2 hs2 ho H => ?_
    have hN := wordsL_nm (first := f1) (gap := g1) (n := count) hs1
    have nd := wordsL_nodup (first := f1) (gap := g1) (size := s1) (n := count) hg1 hg2 (by omega)
    have nl := wordsL_len (first := f1) (gap := g1) (size := s1) (n := count)
    have hA := wordsL_nm (first := f2) (gap := g2) (n := 4) hs2
    have al := wordsL_len (first := f2) (gap := g2) (size := s2) (n := 4)
    generalize wordsL f1 g1 s1 count = names at hN nd nl H
    generalize wordsL f2 g2 s2 4 = acts at hA al H
    ((try simp only [List.set_cons_zero, List.set_cons_succ, List.eraseIdx_cons_zero, List.eraseIdx_cons_succ, List.cons_append, List.nil_append] at H); have hH := H; (try simp only [has_cons, has_nil, dist_cons, dist_nil, ne_eq, and_true, true_and, List.set_cons_zero, List.set_cons_succ] at hH); simp only [wp_bind, wp_fl, wp_sq, wp_out, wpO_ok, wpO_ex, wpF_nx, wpF_rt, wpF_ex, wpF_bk, wpF_ct, bP_ok, bP_ex, lP_ok, lP_ex, qP_nx, qP_rt, qP_ex, qP_bk, qP_ct, oP_rt, oP_nx, oP_ex, loopP_nx, loopP_ct, loopP_bk, loopP_rt, loopP_ex, tgP_ok, wp_try, tryP_nx, tryP_rt, tryP_ct, tryP_bk, offS_rt, offS_nx, br_t, br_f, e_var0, e_varS, e_c, e_bin, a_nil, a_cons, e_fn, e_tup, asB_bl, t_val, asT_bl, t_tru, t_not, t_and, t_or, e_if, e_and, e_or, e_not, e_chain, e_fld, e_con, e_bm, e_star, WL.Q.pe_lst, pe_dict0, pe_dict0K, pe_meth, meth1_ins, con1_ins, s_seq, s_drop, s_ret, s_if, s_next, s_retN, s_asg, s_for, g_nm, g_sub, s_raise, fn_w, out_rt, out_nx, out_ex, set0, setS, lt_ii, le_ii, gt_ii, ge_ii, sub_ii, add_ii, int_i, eq_ii, ne_ii, sub_ref, sub1_lst, sub1_insF, ixSeq0, ixSeq1, ixSeq2, ixSeq3, sub_tup, set_ref, pset_ek, pset_own, startW, List.map_cons, List.map_nil, List.length_cons, List.length_nil, List.replicate_succ, List.replicate_zero, List.cons_append, List.nil_append, Nat.reduceAdd, Nat.reduceSub, Nat.add_sub_cancel, decide_true, decide_false, Bool.not_true, Bool.not_false, List.length_append, List.set_cons_zero, List.set_cons_succ, Nat.reduceLT, Nat.reduceEqDiff, ↓reduceIte, Nat.zero_ne_one, Nat.one_ne_zero, app_ref, papp1, ty_ref, isL_lst, list_ref, plist1, s_fld, ins_ref, ins1_ins, ps_fld1, putW, fldOf, getW, g_tup2, not_non, not_str, nin_in, in_ref, in1_strs, in1_dT, in1_insF, len_ref1, len1_lst, List.length_map, Nat.zero_add, getD, pe_lc, pi_range1, range1_i, WL.Q.pi_seq, itemsR_ref, items1_lst, itemsR_tup, lenO_ref, lenO1_ins, natC_int, pe_is, isB_some, isR_tup, isR_int, isR_str, isR_bl, isR_non, isR_ref, isR1_lst, isR1_ins, WL.Q.pe_prop, prop1_ins, wp_noX, nP_ok, not_bl, is_non, is_str, is_bl, notnon_bl, isnon_bl, notnon_ref, isnon_ref, is_tg, not_tg, eq_bb, ne_bb, xi, dget_some, psub_ek, list_scr, list_tup, bind_ok, bind_ex, fl_ok, fl_ex, sq_nx, sq_rt, sq_ex, sq_bk, sq_ct, optE_none, optE_some, optI_int, slice_ref, slice1_lst, slice_tup, add_ref, add2_lst, tt_and, WL.Q.pe_slice, s_prop, sprop1_ins, notnon_tup, notnon_int, pi_any, WL.Q.pe_fmt, fmtR_some, WL.Q.pe_orT, orR_t, orR_f, tru_non, just8, just2, g_tup4, hH]; (try clear hH))
    refine sp_part (ir := 2) (off := 5) (iN := 1) (iA := 0) H (.mk' (S' := [(lA, _), (lN, _), (lr, _), (p, o), (q, _)]) rfl (hrl.trans ok.len.symm) rfl) ok rfl rfl hN nd (by omega) hA (by omega) hc1 (by omega) hw1 hw4 fun c ln le edges g hH hE hel H => ?_
    ((try simp only [List.set_cons_zero, List.set_cons_succ, List.eraseIdx_cons_zero, List.eraseIdx_cons_succ, List.cons_append, List.nil_append] at H); have hH := H; (try simp only [has_cons, has_nil, dist_cons, dist_nil, ne_eq, and_true, true_and, List.set_cons_zero, List.set_cons_succ] at hH); simp only [wp_bind, wp_fl, wp_sq, wp_out, wpO_ok, wpO_ex, wpF_nx, wpF_rt, wpF_ex, wpF_bk, wpF_ct, bP_ok, bP_ex, lP_ok, lP_ex, qP_nx, qP_rt, qP_ex, qP_bk, qP_ct, oP_rt, oP_nx, oP_ex, loopP_nx, loopP_ct, loopP_bk, loopP_rt, loopP_ex, tgP_ok, wp_try, tryP_nx, tryP_rt, tryP_ct, tryP_bk, offS_rt, offS_nx, br_t, br_f, e_var0, e_varS, e_c, e_bin, a_nil, a_cons, e_fn, e_tup, asB_bl, t_val, asT_bl, t_tru, t_not, t_and, t_or, e_if, e_and, e_or, e_not, e_chain, e_fld, e_con, e_bm, e_star, WL.Q.pe_lst, pe_dict0, pe_dict0K, pe_meth, meth1_ins, con1_ins, s_seq, s_drop, s_ret, s_if, s_next, s_retN, s_asg, s_for, g_nm, g_sub, s_raise, fn_w, out_rt, out_nx, out_ex, set0, setS, lt_ii, le_ii, gt_ii, ge_ii, sub_ii, add_ii, int_i, eq_ii, ne_ii, sub_ref, sub1_lst, sub1_insF, ixSeq0, ixSeq1, ixSeq2, ixSeq3, sub_tup, set_ref, pset_ek, pset_own, startW, List.map_cons, List.map_nil, List.length_cons, List.length_nil, List.replicate_succ, List.replicate_zero, List.cons_append, List.nil_append, Nat.reduceAdd, Nat.reduceSub, Nat.add_sub_cancel, decide_true, decide_false, Bool.not_true, Bool.not_false, List.length_append, List.set_cons_zero, List.set_cons_succ, Nat.reduceLT, Nat.reduceEqDiff, ↓reduceIte, Nat.zero_ne_one, Nat.one_ne_zero, app_ref, papp1, ty_ref, isL_lst, list_ref, plist1, s_fld, ins_ref, ins1_ins, ps_fld1, putW, fldOf, getW, g_tup2, not_non, not_str, nin_in, in_ref, in1_strs, in1_dT, in1_insF, len_ref1, len1_lst, List.length_map, Nat.zero_add, getD, pe_lc, pi_range1, range1_i, WL.Q.pi_seq, itemsR_ref, items1_lst, itemsR_tup, lenO_ref, lenO1_ins, natC_int, pe_is, isB_some, isR_tup, isR_int, isR_str, isR_bl, isR_non, isR_ref, isR1_lst, isR1_ins, WL.Q.pe_prop, prop1_ins, wp_noX, nP_ok, not_bl, is_non, is_str, is_bl, notnon_bl, isnon_bl, notnon_ref, isnon_ref, is_tg, not_tg, eq_bb, ne_bb, xi, dget_some, psub_ek, list_scr, list_tup, bind_ok, bind_ex, fl_ok, fl_ex, sq_nx, sq_rt, sq_ex, sq_bk, sq_ct, optE_none, optE_some, optI_int, slice_ref, slice1_lst, slice_tup, add_ref, add2_lst, tt_and, WL.Q.pe_slice, s_prop, sprop1_ins, notnon_tup, notnon_int, pi_any, WL.Q.pe_fmt, fmtR_some, WL.Q.pe_orT, orR_t, orR_f, tru_non, just8, just2, g_tup4, hH]; (try clear hH))
    refine sp_order (ir := 5) (off := 8) H (.mk' (S' := [(c, _), (ln, _), (le, _), (lA, _), (lN, _), (lr, _), (p, o), (q, _)]) rfl (hrl.trans ok.len.symm) rfl) ok hc1 (by omega) fun lo g H => ?_
    have ordok := OrdOk.all ok hc1 count (Nat.le_refl _)
    have hol := ordok.len
    have hop := ordN_pos (rows := rows) (n := count)
    generalize hord : ordN rows count = ord at ordok hol hop H
    ((try simp only [List.set_cons_zero, List.set_cons_succ, List.eraseIdx_cons_zero, List.eraseIdx_cons_succ, List.cons_append, List.nil_append] at H); have hH := H; (try simp only [has_cons, has_nil, dist_cons, dist_nil, ne_eq, and_true, true_and, List.set_cons_zero, List.set_cons_succ] at hH); simp only [wp_bind, wp_fl, wp_sq, wp_out, wpO_ok, wpO_ex, wpF_nx, wpF_rt, wpF_ex, wpF_bk, wpF_ct, bP_ok, bP_ex, lP_ok, lP_ex, qP_nx, qP_rt, qP_ex, qP_bk, qP_ct, oP_rt, oP_nx, oP_ex, loopP_nx, loopP_ct, loopP_bk, loopP_rt, loopP_ex, tgP_ok, wp_try, tryP_nx, tryP_rt, tryP_ct, tryP_bk, offS_rt, offS_nx, br_t, br_f, e_var0, e_varS, e_c, e_bin, a_nil, a_cons, e_fn, e_tup, asB_bl, t_val, asT_bl, t_tru, t_not, t_and, t_or, e_if, e_and, e_or, e_not, e_chain, e_fld, e_con, e_bm, e_star, WL.Q.pe_lst, pe_dict0, pe_dict0K, pe_meth, meth1_ins, con1_ins, s_seq, s_drop, s_ret, s_if, s_next, s_retN, s_asg, s_for, g_nm, g_sub, s_raise, fn_w, out_rt, out_nx, out_ex, set0, setS, lt_ii, le_ii, gt_ii, ge_ii, sub_ii, add_ii, int_i, eq_ii, ne_ii, sub_ref, sub1_lst, sub1_insF, ixSeq0, ixSeq1, ixSeq2, ixSeq3, sub_tup, set_ref, pset_ek, pset_own, startW, List.map_cons, List.map_nil, List.length_cons, List.length_nil, List.replicate_succ, List.replicate_zero, List.cons_append, List.nil_append, Nat.reduceAdd, Nat.reduceSub, Nat.add_sub_cancel, decide_true, decide_false, Bool.not_true, Bool.not_false, List.length_append, List.set_cons_zero, List.set_cons_succ, Nat.reduceLT, Nat.reduceEqDiff, ↓reduceIte, Nat.zero_ne_one, Nat.one_ne_zero, app_ref, papp1, ty_ref, isL_lst, list_ref, plist1, s_fld, ins_ref, ins1_ins, ps_fld1, putW, fldOf, getW, g_tup2, not_non, not_str, nin_in, in_ref, in1_strs, in1_dT, in1_insF, len_ref1, len1_lst, List.length_map, Nat.zero_add, getD, pe_lc, pi_range1, range1_i, WL.Q.pi_seq, itemsR_ref, items1_lst, itemsR_tup, lenO_ref, lenO1_ins, natC_int, pe_is, isB_some, isR_tup, isR_int, isR_str, isR_bl, isR_non, isR_ref, isR1_lst, isR1_ins, WL.Q.pe_prop, prop1_ins, wp_noX, nP_ok, not_bl, is_non, is_str, is_bl, notnon_bl, isnon_bl, notnon_ref, isnon_ref, is_tg, not_tg, eq_bb, ne_bb, xi, dget_some, psub_ek, list_scr, list_tup, bind_ok, bind_ex, fl_ok, fl_ex, sq_nx, sq_rt, sq_ex, sq_bk, sq_ct, optE_none, optE_some, optI_int, slice_ref, slice1_lst, slice_tup, add_ref, add2_lst, tt_and, WL.Q.pe_slice, s_prop, sprop1_ins, notnon_tup, notnon_int, pi_any, WL.Q.pe_fmt, fmtR_some, WL.Q.pe_orT, orR_t, orR_f, tru_non, just8, just2, g_tup4, hH]; (try clear hH))
    refine sp_draw H 7 rfl 8 rfl ho (by omega) (by omega) fun d2 o g hd2 ho H => ?_
    have hd2' : d2 < ord.length := by omega
    have hk2 := List.getElem?_eq_getElem hd2'
    generalize ord[d2] = k2 at hk2
    have hk2c : k2 < count := ordok.lt k2 (List.mem_of_getElem? hk2)
    ((try simp only [List.set_cons_zero, List.set_cons_succ, List.eraseIdx_cons_zero, List.eraseIdx_cons_succ, List.cons_append, List.nil_append] at H); have hH := H; (try simp only [has_cons, has_nil, dist_cons, dist_nil, ne_eq, and_true, true_and, List.set_cons_zero, List.set_cons_succ] at hH); simp only [wp_bind, wp_fl, wp_sq, wp_out, wpO_ok, wpO_ex, wpF_nx, wpF_rt, wpF_ex, wpF_bk, wpF_ct, bP_ok, bP_ex, lP_ok, lP_ex, qP_nx, qP_rt, qP_ex, qP_bk, qP_ct, oP_rt, oP_nx, oP_ex, loopP_nx, loopP_ct, loopP_bk, loopP_rt, loopP_ex, tgP_ok, wp_try, tryP_nx, tryP_rt, tryP_ct, tryP_bk, offS_rt, offS_nx, br_t, br_f, e_var0, e_varS, e_c, e_bin, a_nil, a_cons, e_fn, e_tup, asB_bl, t_val, asT_bl, t_tru, t_not, t_and, t_or, e_if, e_and, e_or, e_not, e_chain, e_fld, e_con, e_bm, e_star, WL.Q.pe_lst, pe_dict0, pe_dict0K, pe_meth, meth1_ins, con1_ins, s_seq, s_drop, s_ret, s_if, s_next, s_retN, s_asg, s_for, g_nm, g_sub, s_raise, fn_w, out_rt, out_nx, out_ex, set0, setS, lt_ii, le_ii, gt_ii, ge_ii, sub_ii, add_ii, int_i, eq_ii, ne_ii, sub_ref, sub1_lst, sub1_insF, ixSeq0, ixSeq1, ixSeq2, ixSeq3, sub_tup, set_ref, pset_ek, pset_own, startW, List.map_cons, List.map_nil, List.length_cons, List.length_nil, List.replicate_succ, List.replicate_zero, List.cons_append, List.nil_append, Nat.reduceAdd, Nat.reduceSub, Nat.add_sub_cancel, decide_true, decide_false, Bool.not_true, Bool.not_false, List.length_append, List.set_cons_zero, List.set_cons_succ, Nat.reduceLT, Nat.reduceEqDiff, ↓reduceIte, Nat.zero_ne_one, Nat.one_ne_zero, app_ref, papp1, ty_ref, isL_lst, list_ref, plist1, s_fld, ins_ref, ins1_ins, ps_fld1, putW, fldOf, getW, g_tup2, not_non, not_str, nin_in, in_ref, in1_strs, in1_dT, in1_insF, len_ref1, len1_lst, List.length_map, Nat.zero_add, getD, pe_lc, pi_range1, range1_i, WL.Q.pi_seq, itemsR_ref, items1_lst, itemsR_tup, lenO_ref, lenO1_ins, natC_int, pe_is, isB_some, isR_tup, isR_int, isR_str, isR_bl, isR_non, isR_ref, isR1_lst, isR1_ins, WL.Q.pe_prop, prop1_ins, wp_noX, nP_ok, not_bl, is_non, is_str, is_bl, notnon_bl, isnon_bl, notnon_ref, isnon_ref, is_tg, not_tg, eq_bb, ne_bb, xi, dget_some, psub_ek, list_scr, list_tup, bind_ok, bind_ex, fl_ok, fl_ex, sq_nx, sq_rt, sq_ex, sq_bk, sq_ct, optE_none, optE_some, optI_int, slice_ref, slice1_lst, slice_tup, add_ref, add2_lst, tt_and, WL.Q.pe_slice, s_prop, sprop1_ins, notnon_tup, notnon_int, pi_any, WL.Q.pe_fmt, fmtR_some, WL.Q.pe_orT, orR_t, orR_f, tru_non, just8, just2, g_tup4, hH, ix_nat hk2, ix_nth (show k2 < names.length by omega)]; (try clear hH))
    refine sp_start_at (ic := 1) (il := 2) (ie := 3) H ⟨rfl, rfl, rfl⟩ (List.mem_map.mpr ⟨k2, List.mem_of_getElem? hk2, rfl⟩) fun g H => ?_
    ((try simp only [List.set_cons_zero, List.set_cons_succ, List.eraseIdx_cons_zero, List.eraseIdx_cons_succ, List.cons_append, List.nil_append] at H); have hH := H; (try simp only [has_cons, has_nil, dist_cons, dist_nil, ne_eq, and_true, true_and, List.set_cons_zero, List.set_cons_succ] at hH); simp only [wp_bind, wp_fl, wp_sq, wp_out, wpO_ok, wpO_ex, wpF_nx, wpF_rt, wpF_ex, wpF_bk, wpF_ct, bP_ok, bP_ex, lP_ok, lP_ex, qP_nx, qP_rt, qP_ex, qP_bk, qP_ct, oP_rt, oP_nx, oP_ex, loopP_nx, loopP_ct, loopP_bk, loopP_rt, loopP_ex, tgP_ok, wp_try, tryP_nx, tryP_rt, tryP_ct, tryP_bk, offS_rt, offS_nx, br_t, br_f, e_var0, e_varS, e_c, e_bin, a_nil, a_cons, e_fn, e_tup, asB_bl, t_val, asT_bl, t_tru, t_not, t_and, t_or, e_if, e_and, e_or, e_not, e_chain, e_fld, e_con, e_bm, e_star, WL.Q.pe_lst, pe_dict0, pe_dict0K, pe_meth, meth1_ins, con1_ins, s_seq, s_drop, s_ret, s_if, s_next, s_retN, s_asg, s_for, g_nm, g_sub, s_raise, fn_w, out_rt, out_nx, out_ex, set0, setS, lt_ii, le_ii, gt_ii, ge_ii, sub_ii, add_ii, int_i, eq_ii, ne_ii, sub_ref, sub1_lst, sub1_insF, ixSeq0, ixSeq1, ixSeq2, ixSeq3, sub_tup, set_ref, pset_ek, pset_own, startW, List.map_cons, List.map_nil, List.length_cons, List.length_nil, List.replicate_succ, List.replicate_zero, List.cons_append, List.nil_append, Nat.reduceAdd, Nat.reduceSub, Nat.add_sub_cancel, decide_true, decide_false, Bool.not_true, Bool.not_false, List.length_append, List.set_cons_zero, List.set_cons_succ, Nat.reduceLT, Nat.reduceEqDiff, ↓reduceIte, Nat.zero_ne_one, Nat.one_ne_zero, app_ref, papp1, ty_ref, isL_lst, list_ref, plist1, s_fld, ins_ref, ins1_ins, ps_fld1, putW, fldOf, getW, g_tup2, not_non, not_str, nin_in, in_ref, in1_strs, in1_dT, in1_insF, len_ref1, len1_lst, List.length_map, Nat.zero_add, getD, pe_lc, pi_range1, range1_i, WL.Q.pi_seq, itemsR_ref, items1_lst, itemsR_tup, lenO_ref, lenO1_ins, natC_int, pe_is, isB_some, isR_tup, isR_int, isR_str, isR_bl, isR_non, isR_ref, isR1_lst, isR1_ins, WL.Q.pe_prop, prop1_ins, wp_noX, nP_ok, not_bl, is_non, is_str, is_bl, notnon_bl, isnon_bl, notnon_ref, isnon_ref, is_tg, not_tg, eq_bb, ne_bb, xi, dget_some, psub_ek, list_scr, list_tup, bind_ok, bind_ex, fl_ok, fl_ex, sq_nx, sq_rt, sq_ex, sq_bk, sq_ct, optE_none, optE_some, optI_int, slice_ref, slice1_lst, slice_tup, add_ref, add2_lst, tt_and, WL.Q.pe_slice, s_prop, sprop1_ins, notnon_tup, notnon_int, pi_any, WL.Q.pe_fmt, fmtR_some, WL.Q.pe_orT, orR_t, orR_f, tru_non, just8, just2, g_tup4, hH]; (try clear hH))
    have hnl100 : (ord.map (nth names)).length ≤ 100 := by rw [List.length_map]; omega
    have hNo : ∀ s ∈ ord.map (nth names), Nm s := fun s hs => by
      obtain ⟨j, hj, rfl⟩ := List.mem_map.mp hs
      exact hN _ (nth_mem (by have := ordok.lt j hj; omega))
    refine sp_edge_table (ic := 1) (il := 2) (ie := 3) H ⟨rfl, rfl, rfl⟩ hw4 hnl100 hE hNo fun lt g H => ?_
    rw [due_eq hH ordok.lt] at H
    have okd := okDue ok hN (by omega : count ≤ names.length) hA (by omega) ordok.lt hw4
    have t1 : getT "list" t_list.bi = some true := by decide
    ((try simp only [List.set_cons_zero, List.set_cons_succ, List.eraseIdx_cons_zero, List.eraseIdx_cons_succ, List.cons_append, List.nil_append] at H); have hH := H; (try simp only [has_cons, has_nil, dist_cons, dist_nil, ne_eq, and_true, true_and, List.set_cons_zero, List.set_cons_succ] at hH); simp only [wp_bind, wp_fl, wp_sq, wp_out, wpO_ok, wpO_ex, wpF_nx, wpF_rt, wpF_ex, wpF_bk, wpF_ct, bP_ok, bP_ex, lP_ok, lP_ex, qP_nx, qP_rt, qP_ex, qP_bk, qP_ct, oP_rt, oP_nx, oP_ex, loopP_nx, loopP_ct, loopP_bk, loopP_rt, loopP_ex, tgP_ok, wp_try, tryP_nx, tryP_rt, tryP_ct, tryP_bk, offS_rt, offS_nx, br_t, br_f, e_var0, e_varS, e_c, e_bin, a_nil, a_cons, e_fn, e_tup, asB_bl, t_val, asT_bl, t_tru, t_not, t_and, t_or, e_if, e_and, e_or, e_not, e_chain, e_fld, e_con, e_bm, e_star, WL.Q.pe_lst, pe_dict0, pe_dict0K, pe_meth, meth1_ins, con1_ins, s_seq, s_drop, s_ret, s_if, s_next, s_retN, s_asg, s_for, g_nm, g_sub, s_raise, fn_w, out_rt, out_nx, out_ex, set0, setS, lt_ii, le_ii, gt_ii, ge_ii, sub_ii, add_ii, int_i, eq_ii, ne_ii, sub_ref, sub1_lst, sub1_insF, ixSeq0, ixSeq1, ixSeq2, ixSeq3, sub_tup, set_ref, pset_ek, pset_own, startW, List.map_cons, List.map_nil, List.length_cons, List.length_nil, List.replicate_succ, List.replicate_zero, List.cons_append, List.nil_append, Nat.reduceAdd, Nat.reduceSub, Nat.add_sub_cancel, decide_true, decide_false, Bool.not_true, Bool.not_false, List.length_append, List.set_cons_zero, List.set_cons_succ, Nat.reduceLT, Nat.reduceEqDiff, ↓reduceIte, Nat.zero_ne_one, Nat.one_ne_zero, app_ref, papp1, ty_ref, isL_lst, list_ref, plist1, s_fld, ins_ref, ins1_ins, ps_fld1, putW, fldOf, getW, g_tup2, not_non, not_str, nin_in, in_ref, in1_strs, in1_dT, in1_insF, len_ref1, len1_lst, List.length_map, Nat.zero_add, getD, pe_lc, pi_range1, range1_i, WL.Q.pi_seq, itemsR_ref, items1_lst, itemsR_tup, lenO_ref, lenO1_ins, natC_int, pe_is, isB_some, isR_tup, isR_int, isR_str, isR_bl, isR_non, isR_ref, isR1_lst, isR1_ins, WL.Q.pe_prop, prop1_ins, wp_noX, nP_ok, not_bl, is_non, is_str, is_bl, notnon_bl, isnon_bl, notnon_ref, isnon_ref, is_tg, not_tg, eq_bb, ne_bb, xi, dget_some, psub_ek, list_scr, list_tup, bind_ok, bind_ex, fl_ok, fl_ex, sq_nx, sq_rt, sq_ex, sq_bk, sq_ct, optE_none, optE_some, optI_int, slice_ref, slice1_lst, slice_tup, add_ref, add2_lst, tt_and, WL.Q.pe_slice, s_prop, sprop1_ins, notnon_tup, notnon_int, pi_any, WL.Q.pe_fmt, fmtR_some, WL.Q.pe_orT, orR_t, orR_f, tru_non, just8, just2, g_tup4, hH, t1]; (try clear hH))
    refine sp_due (ir := 7) (off := 10) (iN := 6) (iA := 5) H (.mk' (S' := [(lt, _), (lo, _), (c, _), (ln, _), (le, _), (lA, _), (lN, _), (lr, _), (p, o), (q, _)]) rfl (hrl.trans ok.len.symm) rfl) ok rfl rfl hN (by omega) hA (by omega) hc1 (by omega) hw4 fun ld g H => ?_
    rw [hord] at H
    have dl := dueL_len (names := names) (acts := acts) (rows := rows) (wide := wide) ord
    have dl2 : (dueL names acts rows wide ord).length ≤ 64 := Nat.le_trans dl (Nat.le_trans (Nat.mul_le_mul (show ord.length ≤ 16 by omega) hw4) (by decide))
    ((try simp only [List.set_cons_zero, List.set_cons_succ, List.eraseIdx_cons_zero, List.eraseIdx_cons_succ, List.cons_append, List.nil_append] at H); have hH := H; (try simp only [has_cons, has_nil, dist_cons, dist_nil, ne_eq, and_true, true_and, List.set_cons_zero, List.set_cons_succ] at hH); simp only [wp_bind, wp_fl, wp_sq, wp_out, wpO_ok, wpO_ex, wpF_nx, wpF_rt, wpF_ex, wpF_bk, wpF_ct, bP_ok, bP_ex, lP_ok, lP_ex, qP_nx, qP_rt, qP_ex, qP_bk, qP_ct, oP_rt, oP_nx, oP_ex, loopP_nx, loopP_ct, loopP_bk, loopP_rt, loopP_ex, tgP_ok, wp_try, tryP_nx, tryP_rt, tryP_ct, tryP_bk, offS_rt, offS_nx, br_t, br_f, e_var0, e_varS, e_c, e_bin, a_nil, a_cons, e_fn, e_tup, asB_bl, t_val, asT_bl, t_tru, t_not, t_and, t_or, e_if, e_and, e_or, e_not, e_chain, e_fld, e_con, e_bm, e_star, WL.Q.pe_lst, pe_dict0, pe_dict0K, pe_meth, meth1_ins, con1_ins, s_seq, s_drop, s_ret, s_if, s_next, s_retN, s_asg, s_for, g_nm, g_sub, s_raise, fn_w, out_rt, out_nx, out_ex, set0, setS, lt_ii, le_ii, gt_ii, ge_ii, sub_ii, add_ii, int_i, eq_ii, ne_ii, sub_ref, sub1_lst, sub1_insF, ixSeq0, ixSeq1, ixSeq2, ixSeq3, sub_tup, set_ref, pset_ek, pset_own, startW, List.map_cons, List.map_nil, List.length_cons, List.length_nil, List.replicate_succ, List.replicate_zero, List.cons_append, List.nil_append, Nat.reduceAdd, Nat.reduceSub, Nat.add_sub_cancel, decide_true, decide_false, Bool.not_true, Bool.not_false, List.length_append, List.set_cons_zero, List.set_cons_succ, Nat.reduceLT, Nat.reduceEqDiff, ↓reduceIte, Nat.zero_ne_one, Nat.one_ne_zero, app_ref, papp1, ty_ref, isL_lst, list_ref, plist1, s_fld, ins_ref, ins1_ins, ps_fld1, putW, fldOf, getW, g_tup2, not_non, not_str, nin_in, in_ref, in1_strs, in1_dT, in1_insF, len_ref1, len1_lst, List.length_map, Nat.zero_add, getD, pe_lc, pi_range1, range1_i, WL.Q.pi_seq, itemsR_ref, items1_lst, itemsR_tup, lenO_ref, lenO1_ins, natC_int, pe_is, isB_some, isR_tup, isR_int, isR_str, isR_bl, isR_non, isR_ref, isR1_lst, isR1_ins, WL.Q.pe_prop, prop1_ins, wp_noX, nP_ok, not_bl, is_non, is_str, is_bl, notnon_bl, isnon_bl, notnon_ref, isnon_ref, is_tg, not_tg, eq_bb, ne_bb, xi, dget_some, psub_ek, list_scr, list_tup, bind_ok, bind_ex, fl_ok, fl_ex, sq_nx, sq_rt, sq_ex, sq_bk, sq_ct, optE_none, optE_some, optI_int, slice_ref, slice1_lst, slice_tup, add_ref, add2_lst, tt_and, WL.Q.pe_slice, s_prop, sprop1_ins, notnon_tup, notnon_int, pi_any, WL.Q.pe_fmt, fmtR_some, WL.Q.pe_orT, orR_t, orR_f, tru_non, just8, just2, g_tup4, hH, ne_lsts (H.get (i := 1) rfl) (H.get (i := 0) rfl) okd]; (try clear hH))
    unfold law_r7
    ((try simp only [List.set_cons_zero, List.set_cons_succ, List.eraseIdx_cons_zero, List.eraseIdx_cons_succ, List.cons_append, List.nil_append] at H); have hH := H; (try simp only [has_cons, has_nil, dist_cons, dist_nil, ne_eq, and_true, true_and, List.set_cons_zero, List.set_cons_succ] at hH); simp only [wp_bind, wp_fl, wp_sq, wp_out, wpO_ok, wpO_ex, wpF_nx, wpF_rt, wpF_ex, wpF_bk, wpF_ct, bP_ok, bP_ex, lP_ok, lP_ex, qP_nx, qP_rt, qP_ex, qP_bk, qP_ct, oP_rt, oP_nx, oP_ex, loopP_nx, loopP_ct, loopP_bk, loopP_rt, loopP_ex, tgP_ok, wp_try, tryP_nx, tryP_rt, tryP_ct, tryP_bk, offS_rt, offS_nx, br_t, br_f, e_var0, e_varS, e_c, e_bin, a_nil, a_cons, e_fn, e_tup, asB_bl, t_val, asT_bl, t_tru, t_not, t_and, t_or, e_if, e_and, e_or, e_not, e_chain, e_fld, e_con, e_bm, e_star, WL.Q.pe_lst, pe_dict0, pe_dict0K, pe_meth, meth1_ins, con1_ins, s_seq, s_drop, s_ret, s_if, s_next, s_retN, s_asg, s_for, g_nm, g_sub, s_raise, fn_w, out_rt, out_nx, out_ex, set0, setS, lt_ii, le_ii, gt_ii, ge_ii, sub_ii, add_ii, int_i, eq_ii, ne_ii, sub_ref, sub1_lst, sub1_insF, ixSeq0, ixSeq1, ixSeq2, ixSeq3, sub_tup, set_ref, pset_ek, pset_own, startW, List.map_cons, List.map_nil, List.length_cons, List.length_nil, List.replicate_succ, List.replicate_zero, List.cons_append, List.nil_append, Nat.reduceAdd, Nat.reduceSub, Nat.add_sub_cancel, decide_true, decide_false, Bool.not_true, Bool.not_false, List.length_append, List.set_cons_zero, List.set_cons_succ, Nat.reduceLT, Nat.reduceEqDiff, ↓reduceIte, Nat.zero_ne_one, Nat.one_ne_zero, app_ref, papp1, ty_ref, isL_lst, list_ref, plist1, s_fld, ins_ref, ins1_ins, ps_fld1, putW, fldOf, getW, g_tup2, not_non, not_str, nin_in, in_ref, in1_strs, in1_dT, in1_insF, len_ref1, len1_lst, List.length_map, Nat.zero_add, getD, pe_lc, pi_range1, range1_i, WL.Q.pi_seq, itemsR_ref, items1_lst, itemsR_tup, lenO_ref, lenO1_ins, natC_int, pe_is, isB_some, isR_tup, isR_int, isR_str, isR_bl, isR_non, isR_ref, isR1_lst, isR1_ins, WL.Q.pe_prop, prop1_ins, wp_noX, nP_ok, not_bl, is_non, is_str, is_bl, notnon_bl, isnon_bl, notnon_ref, isnon_ref, is_tg, not_tg, eq_bb, ne_bb, xi, dget_some, psub_ek, list_scr, list_tup, bind_ok, bind_ex, fl_ok, fl_ex, sq_nx, sq_rt, sq_ex, sq_bk, sq_ct, optE_none, optE_some, optI_int, slice_ref, slice1_lst, slice_tup, add_ref, add2_lst, tt_and, WL.Q.pe_slice, s_prop, sprop1_ins, notnon_tup, notnon_int, pi_any, WL.Q.pe_fmt, fmtR_some, WL.Q.pe_orT, orR_t, orR_f, tru_non, just8, just2, g_tup4, hH, fits_of (show (dueL names acts rows wide ord).length ≤ 1000000 by omega)]; (try clear hH))
    ((try simp only [List.set_cons_zero, List.set_cons_succ, List.eraseIdx_cons_zero, List.eraseIdx_cons_succ, List.cons_append, List.nil_append] at H); first | refine wp_upd H 0 rfl fun _ H => ?_ | refine wp_upd H 1 rfl fun _ H => ?_ | refine wp_upd H 2 rfl fun _ H => ?_ | refine wp_upd H 3 rfl fun _ H => ?_ | refine wp_upd H 4 rfl fun _ H => ?_ | refine wp_upd H 5 rfl fun _ H => ?_ | refine wp_upd H 6 rfl fun _ H => ?_ | refine wp_upd H 7 rfl fun _ H => ?_ | refine wp_upd H 8 rfl fun _ H => ?_ | refine wp_upd H 9 rfl fun _ H => ?_ | refine wp_upd H 10 rfl fun _ H => ?_ | refine wp_upd H 11 rfl fun _ H => ?_ | refine wp_upd H 12 rfl fun _ H => ?_ | refine wp_upd H 13 rfl fun _ H => ?_ | refine wp_upd H 14 rfl fun _ H => ?_ | refine wp_upd H 15 rfl fun _ H => ?_ | refine wp_upd H 16 rfl fun _ H => ?_ | refine wp_upd H 17 rfl fun _ H => ?_ | refine wp_upd H 18 rfl fun _ H => ?_ | refine wp_upd H 19 rfl fun _ H => ?_)
    ((try simp only [List.set_cons_zero, List.set_cons_succ, List.eraseIdx_cons_zero, List.eraseIdx_cons_succ, List.cons_append, List.nil_append] at H); have hH := H; (try simp only [has_cons, has_nil, dist_cons, dist_nil, ne_eq, and_true, true_and, List.set_cons_zero, List.set_cons_succ] at hH); simp only [wp_bind, wp_fl, wp_sq, wp_out, wpO_ok, wpO_ex, wpF_nx, wpF_rt, wpF_ex, wpF_bk, wpF_ct, bP_ok, bP_ex, lP_ok, lP_ex, qP_nx, qP_rt, qP_ex, qP_bk, qP_ct, oP_rt, oP_nx, oP_ex, loopP_nx, loopP_ct, loopP_bk, loopP_rt, loopP_ex, tgP_ok, wp_try, tryP_nx, tryP_rt, tryP_ct, tryP_bk, offS_rt, offS_nx, br_t, br_f, e_var0, e_varS, e_c, e_bin, a_nil, a_cons, e_fn, e_tup, asB_bl, t_val, asT_bl, t_tru, t_not, t_and, t_or, e_if, e_and, e_or, e_not, e_chain, e_fld, e_con, e_bm, e_star, WL.Q.pe_lst, pe_dict0, pe_dict0K, pe_meth, meth1_ins, con1_ins, s_seq, s_drop, s_ret, s_if, s_next, s_retN, s_asg, s_for, g_nm, g_sub, s_raise, fn_w, out_rt, out_nx, out_ex, set0, setS, lt_ii, le_ii, gt_ii, ge_ii, sub_ii, add_ii, int_i, eq_ii, ne_ii, sub_ref, sub1_lst, sub1_insF, ixSeq0, ixSeq1, ixSeq2, ixSeq3, sub_tup, set_ref, pset_ek, pset_own, startW, List.map_cons, List.map_nil, List.length_cons, List.length_nil, List.replicate_succ, List.replicate_zero, List.cons_append, List.nil_append, Nat.reduceAdd, Nat.reduceSub, Nat.add_sub_cancel, decide_true, decide_false, Bool.not_true, Bool.not_false, List.length_append, List.set_cons_zero, List.set_cons_succ, Nat.reduceLT, Nat.reduceEqDiff, ↓reduceIte, Nat.zero_ne_one, Nat.one_ne_zero, app_ref, papp1, ty_ref, isL_lst, list_ref, plist1, s_fld, ins_ref, ins1_ins, ps_fld1, putW, fldOf, getW, g_tup2, not_non, not_str, nin_in, in_ref, in1_strs, in1_dT, in1_insF, len_ref1, len1_lst, List.length_map, Nat.zero_add, getD, pe_lc, pi_range1, range1_i, WL.Q.pi_seq, itemsR_ref, items1_lst, itemsR_tup, lenO_ref, lenO1_ins, natC_int, pe_is, isB_some, isR_tup, isR_int, isR_str, isR_bl, isR_non, isR_ref, isR1_lst, isR1_ins, WL.Q.pe_prop, prop1_ins, wp_noX, nP_ok, not_bl, is_non, is_str, is_bl, notnon_bl, isnon_bl, notnon_ref, isnon_ref, is_tg, not_tg, eq_bb, ne_bb, xi, dget_some, psub_ek, list_scr, list_tup, bind_ok, bind_ex, fl_ok, fl_ex, sq_nx, sq_rt, sq_ex, sq_bk, sq_ct, optE_none, optE_some, optI_int, slice_ref, slice1_lst, slice_tup, add_ref, add2_lst, tt_and, WL.Q.pe_slice, s_prop, sprop1_ins, notnon_tup, notnon_int, pi_any, WL.Q.pe_fmt, fmtR_some, WL.Q.pe_orT, orR_t, orR_f, tru_non, just8, just2, g_tup4, hH]; (try clear hH))
    refine sp_listC (ic := 3) (il := 4) (ie := 5) H ⟨rfl, rfl, rfl⟩ (by omega) fun l1 g H => ?_
    ((try simp only [List.set_cons_zero, List.set_cons_succ, List.eraseIdx_cons_zero, List.eraseIdx_cons_succ, List.cons_append, List.nil_append] at H); have hH := H; (try simp only [has_cons, has_nil, dist_cons, dist_nil, ne_eq, and_true, true_and, List.set_cons_zero, List.set_cons_succ] at hH); simp only [wp_bind, wp_fl, wp_sq, wp_out, wpO_ok, wpO_ex, wpF_nx, wpF_rt, wpF_ex, wpF_bk, wpF_ct, bP_ok, bP_ex, lP_ok, lP_ex, qP_nx, qP_rt, qP_ex, qP_bk, qP_ct, oP_rt, oP_nx, oP_ex, loopP_nx, loopP_ct, loopP_bk, loopP_rt, loopP_ex, tgP_ok, wp_try, tryP_nx, tryP_rt, tryP_ct, tryP_bk, offS_rt, offS_nx, br_t, br_f, e_var0, e_varS, e_c, e_bin, a_nil, a_cons, e_fn, e_tup, asB_bl, t_val, asT_bl, t_tru, t_not, t_and, t_or, e_if, e_and, e_or, e_not, e_chain, e_fld, e_con, e_bm, e_star, WL.Q.pe_lst, pe_dict0, pe_dict0K, pe_meth, meth1_ins, con1_ins, s_seq, s_drop, s_ret, s_if, s_next, s_retN, s_asg, s_for, g_nm, g_sub, s_raise, fn_w, out_rt, out_nx, out_ex, set0, setS, lt_ii, le_ii, gt_ii, ge_ii, sub_ii, add_ii, int_i, eq_ii, ne_ii, sub_ref, sub1_lst, sub1_insF, ixSeq0, ixSeq1, ixSeq2, ixSeq3, sub_tup, set_ref, pset_ek, pset_own, startW, List.map_cons, List.map_nil, List.length_cons, List.length_nil, List.replicate_succ, List.replicate_zero, List.cons_append, List.nil_append, Nat.reduceAdd, Nat.reduceSub, Nat.add_sub_cancel, decide_true, decide_false, Bool.not_true, Bool.not_false, List.length_append, List.set_cons_zero, List.set_cons_succ, Nat.reduceLT, Nat.reduceEqDiff, ↓reduceIte, Nat.zero_ne_one, Nat.one_ne_zero, app_ref, papp1, ty_ref, isL_lst, list_ref, plist1, s_fld, ins_ref, ins1_ins, ps_fld1, putW, fldOf, getW, g_tup2, not_non, not_str, nin_in, in_ref, in1_strs, in1_dT, in1_insF, len_ref1, len1_lst, List.length_map, Nat.zero_add, getD, pe_lc, pi_range1, range1_i, WL.Q.pi_seq, itemsR_ref, items1_lst, itemsR_tup, lenO_ref, lenO1_ins, natC_int, pe_is, isB_some, isR_tup, isR_int, isR_str, isR_bl, isR_non, isR_ref, isR1_lst, isR1_ins, WL.Q.pe_prop, prop1_ins, wp_noX, nP_ok, not_bl, is_non, is_str, is_bl, notnon_bl, isnon_bl, notnon_ref, isnon_ref, is_tg, not_tg, eq_bb, ne_bb, xi, dget_some, psub_ek, list_scr, list_tup, bind_ok, bind_ex, fl_ok, fl_ex, sq_nx, sq_rt, sq_ex, sq_bk, sq_ct, optE_none, optE_some, optI_int, slice_ref, slice1_lst, slice_tup, add_ref, add2_lst, tt_and, WL.Q.pe_slice, s_prop, sprop1_ins, notnon_tup, notnon_int, pi_any, WL.Q.pe_fmt, fmtR_some, WL.Q.pe_orT, orR_t, orR_f, tru_non, just8, just2, g_tup4, hH]; (try clear hH))
    refine wp_lcMap (fun w => [some (.scr ns), some (.ref p), some (.ref lr), some (.int wide), o4, some w, o6, some (.ref lN), some (.ref lA), some (.ref c), some (.ref lo), some (.ref lt), none, none, none, none, none, none, none]) (fun w => match w with | .int k => W.str (nth names k.toNat) | _ => .non) H (StillS.at 3 rfl) (by dsimp only; rw [List.length_map]; omega) (fun _ _ _ => rfl) (fun w hw L acc g' H => ?_) fun l2 g H => ?_
    · obtain ⟨kk, hkk, rfl⟩ := List.mem_map.mp hw
      have := ordok.lt kk hkk
      unfold law_le1
      ((try simp only [List.set_cons_zero, List.set_cons_succ, List.eraseIdx_cons_zero, List.eraseIdx_cons_succ, List.cons_append, List.nil_append] at H); have hH := H; (try simp only [has_cons, has_nil, dist_cons, dist_nil, ne_eq, and_true, true_and, List.set_cons_zero, List.set_cons_succ] at hH); simp only [wp_bind, wp_fl, wp_sq, wp_out, wpO_ok, wpO_ex, wpF_nx, wpF_rt, wpF_ex, wpF_bk, wpF_ct, bP_ok, bP_ex, lP_ok, lP_ex, qP_nx, qP_rt, qP_ex, qP_bk, qP_ct, oP_rt, oP_nx, oP_ex, loopP_nx, loopP_ct, loopP_bk, loopP_rt, loopP_ex, tgP_ok, wp_try, tryP_nx, tryP_rt, tryP_ct, tryP_bk, offS_rt, offS_nx, br_t, br_f, e_var0, e_varS, e_c, e_bin, a_nil, a_cons, e_fn, e_tup, asB_bl, t_val, asT_bl, t_tru, t_not, t_and, t_or, e_if, e_and, e_or, e_not, e_chain, e_fld, e_con, e_bm, e_star, WL.Q.pe_lst, pe_dict0, pe_dict0K, pe_meth, meth1_ins, con1_ins, s_seq, s_drop, s_ret, s_if, s_next, s_retN, s_asg, s_for, g_nm, g_sub, s_raise, fn_w, out_rt, out_nx, out_ex, set0, setS, lt_ii, le_ii, gt_ii, ge_ii, sub_ii, add_ii, int_i, eq_ii, ne_ii, sub_ref, sub1_lst, sub1_insF, ixSeq0, ixSeq1, ixSeq2, ixSeq3, sub_tup, set_ref, pset_ek, pset_own, startW, List.map_cons, List.map_nil, List.length_cons, List.length_nil, List.replicate_succ, List.replicate_zero, List.cons_append, List.nil_append, Nat.reduceAdd, Nat.reduceSub, Nat.add_sub_cancel, decide_true, decide_false, Bool.not_true, Bool.not_false, List.length_append, List.set_cons_zero, List.set_cons_succ, Nat.reduceLT, Nat.reduceEqDiff, ↓reduceIte, Nat.zero_ne_one, Nat.one_ne_zero, app_ref, papp1, ty_ref, isL_lst, list_ref, plist1, s_fld, ins_ref, ins1_ins, ps_fld1, putW, fldOf, getW, g_tup2, not_non, not_str, nin_in, in_ref, in1_strs, in1_dT, in1_insF, len_ref1, len1_lst, List.length_map, Nat.zero_add, getD, pe_lc, pi_range1, range1_i, WL.Q.pi_seq, itemsR_ref, items1_lst, itemsR_tup, lenO_ref, lenO1_ins, natC_int, pe_is, isB_some, isR_tup, isR_int, isR_str, isR_bl, isR_non, isR_ref, isR1_lst, isR1_ins, WL.Q.pe_prop, prop1_ins, wp_noX, nP_ok, not_bl, is_non, is_str, is_bl, notnon_bl, isnon_bl, notnon_ref, isnon_ref, is_tg, not_tg, eq_bb, ne_bb, xi, dget_some, psub_ek, list_scr, list_tup, bind_ok, bind_ex, fl_ok, fl_ex, sq_nx, sq_rt, sq_ex, sq_bk, sq_ct, optE_none, optE_some, optI_int, slice_ref, slice1_lst, slice_tup, add_ref, add2_lst, tt_and, WL.Q.pe_slice, s_prop, sprop1_ins, notnon_tup, notnon_int, pi_any, WL.Q.pe_fmt, fmtR_some, WL.Q.pe_orT, orR_t, orR_f, tru_non, just8, just2, g_tup4, hH, natW, ix_nth (show kk < names.length by omega)]; (try clear hH))
      exact endsP_ok H
    · dsimp only at H
      rw [lc_names] at H
      ((try simp only [List.set_cons_zero, List.set_cons_succ, List.eraseIdx_cons_zero, List.eraseIdx_cons_succ, List.cons_append, List.nil_append] at H); have hH := H; (try simp only [has_cons, has_nil, dist_cons, dist_nil, ne_eq, and_true, true_and, List.set_cons_zero, List.set_cons_succ] at hH); simp only [wp_bind, wp_fl, wp_sq, wp_out, wpO_ok, wpO_ex, wpF_nx, wpF_rt, wpF_ex, wpF_bk, wpF_ct, bP_ok, bP_ex, lP_ok, lP_ex, qP_nx, qP_rt, qP_ex, qP_bk, qP_ct, oP_rt, oP_nx, oP_ex, loopP_nx, loopP_ct, loopP_bk, loopP_rt, loopP_ex, tgP_ok, wp_try, tryP_nx, tryP_rt, tryP_ct, tryP_bk, offS_rt, offS_nx, br_t, br_f, e_var0, e_varS, e_c, e_bin, a_nil, a_cons, e_fn, e_tup, asB_bl, t_val, asT_bl, t_tru, t_not, t_and, t_or, e_if, e_and, e_or, e_not, e_chain, e_fld, e_con, e_bm, e_star, WL.Q.pe_lst, pe_dict0, pe_dict0K, pe_meth, meth1_ins, con1_ins, s_seq, s_drop, s_ret, s_if, s_next, s_retN, s_asg, s_for, g_nm, g_sub, s_raise, fn_w, out_rt, out_nx, out_ex, set0, setS, lt_ii, le_ii, gt_ii, ge_ii, sub_ii, add_ii, int_i, eq_ii, ne_ii, sub_ref, sub1_lst, sub1_insF, ixSeq0, ixSeq1, ixSeq2, ixSeq3, sub_tup, set_ref, pset_ek, pset_own, startW, List.map_cons, List.map_nil, List.length_cons, List.length_nil, List.replicate_succ, List.replicate_zero, List.cons_append, List.nil_append, Nat.reduceAdd, Nat.reduceSub, Nat.add_sub_cancel, decide_true, decide_false, Bool.not_true, Bool.not_false, List.length_append, List.set_cons_zero, List.set_cons_succ, Nat.reduceLT, Nat.reduceEqDiff, ↓reduceIte, Nat.zero_ne_one, Nat.one_ne_zero, app_ref, papp1, ty_ref, isL_lst, list_ref, plist1, s_fld, ins_ref, ins1_ins, ps_fld1, putW, fldOf, getW, g_tup2, not_non, not_str, nin_in, in_ref, in1_strs, in1_dT, in1_insF, len_ref1, len1_lst, List.length_map, Nat.zero_add, getD, pe_lc, pi_range1, range1_i, WL.Q.pi_seq, itemsR_ref, items1_lst, itemsR_tup, lenO_ref, lenO1_ins, natC_int, pe_is, isB_some, isR_tup, isR_int, isR_str, isR_bl, isR_non, isR_ref, isR1_lst, isR1_ins, WL.Q.pe_prop, prop1_ins, wp_noX, nP_ok, not_bl, is_non, is_str, is_bl, notnon_bl, isnon_bl, notnon_ref, isnon_ref, is_tg, not_tg, eq_bb, ne_bb, xi, dget_some, psub_ek, list_scr, list_tup, bind_ok, bind_ex, fl_ok, fl_ex, sq_nx, sq_rt, sq_ex, sq_bk, sq_ct, optE_none, optE_some, optI_int, slice_ref, slice1_lst, slice_tup, add_ref, add2_lst, tt_and, WL.Q.pe_slice, s_prop, sprop1_ins, notnon_tup, notnon_int, pi_any, WL.Q.pe_fmt, fmtR_some, WL.Q.pe_orT, orR_t, orR_f, tru_non, just8, just2, g_tup4, hH, ne_lsts (H.get (i := 1) rfl) (H.get (i := 0) rfl) (okWs_strs hNo)]; (try clear hH))
      have H := H.2.2.2.2.2.2
      unfold law_r6
      rw [← rowsetS_def]
      ((try simp only [List.set_cons_zero, List.set_cons_succ, List.eraseIdx_cons_zero, List.eraseIdx_cons_succ, List.cons_append, List.nil_append] at H); have hH := H; (try simp only [has_cons, has_nil, dist_cons, dist_nil, ne_eq, and_true, true_and, List.set_cons_zero, List.set_cons_succ] at hH); simp only [wp_bind, wp_fl, wp_sq, wp_out, wpO_ok, wpO_ex, wpF_nx, wpF_rt, wpF_ex, wpF_bk, wpF_ct, bP_ok, bP_ex, lP_ok, lP_ex, qP_nx, qP_rt, qP_ex, qP_bk, qP_ct, oP_rt, oP_nx, oP_ex, loopP_nx, loopP_ct, loopP_bk, loopP_rt, loopP_ex, tgP_ok, wp_try, tryP_nx, tryP_rt, tryP_ct, tryP_bk, offS_rt, offS_nx, br_t, br_f, e_var0, e_varS, e_c, e_bin, a_nil, a_cons, e_fn, e_tup, asB_bl, t_val, asT_bl, t_tru, t_not, t_and, t_or, e_if, e_and, e_or, e_not, e_chain, e_fld, e_con, e_bm, e_star, WL.Q.pe_lst, pe_dict0, pe_dict0K, pe_meth, meth1_ins, con1_ins, s_seq, s_drop, s_ret, s_if, s_next, s_retN, s_asg, s_for, g_nm, g_sub, s_raise, fn_w, out_rt, out_nx, out_ex, set0, setS, lt_ii, le_ii, gt_ii, ge_ii, sub_ii, add_ii, int_i, eq_ii, ne_ii, sub_ref, sub1_lst, sub1_insF, ixSeq0, ixSeq1, ixSeq2, ixSeq3, sub_tup, set_ref, pset_ek, pset_own, startW, List.map_cons, List.map_nil, List.length_cons, List.length_nil, List.replicate_succ, List.replicate_zero, List.cons_append, List.nil_append, Nat.reduceAdd, Nat.reduceSub, Nat.add_sub_cancel, decide_true, decide_false, Bool.not_true, Bool.not_false, List.length_append, List.set_cons_zero, List.set_cons_succ, Nat.reduceLT, Nat.reduceEqDiff, ↓reduceIte, Nat.zero_ne_one, Nat.one_ne_zero, app_ref, papp1, ty_ref, isL_lst, list_ref, plist1, s_fld, ins_ref, ins1_ins, ps_fld1, putW, fldOf, getW, g_tup2, not_non, not_str, nin_in, in_ref, in1_strs, in1_dT, in1_insF, len_ref1, len1_lst, List.length_map, Nat.zero_add, getD, pe_lc, pi_range1, range1_i, WL.Q.pi_seq, itemsR_ref, items1_lst, itemsR_tup, lenO_ref, lenO1_ins, natC_int, pe_is, isB_some, isR_tup, isR_int, isR_str, isR_bl, isR_non, isR_ref, isR1_lst, isR1_ins, WL.Q.pe_prop, prop1_ins, wp_noX, nP_ok, not_bl, is_non, is_str, is_bl, notnon_bl, isnon_bl, notnon_ref, isnon_ref, is_tg, not_tg, eq_bb, ne_bb, xi, dget_some, psub_ek, list_scr, list_tup, bind_ok, bind_ex, fl_ok, fl_ex, sq_nx, sq_rt, sq_ex, sq_bk, sq_ct, optE_none, optE_some, optI_int, slice_ref, slice1_lst, slice_tup, add_ref, add2_lst, tt_and, WL.Q.pe_slice, s_prop, sprop1_ins, notnon_tup, notnon_int, pi_any, WL.Q.pe_fmt, fmtR_some, WL.Q.pe_orT, orR_t, orR_f, tru_non, just8, just2, g_tup4, hH]; (try clear hH))
      refine sp_draw H 8 rfl 9 rfl ho (by omega) (by omega) fun d3 o g hd3 ho H => ?_
      have hd3' : d3 < ord.length := by omega
      have hk3 := List.getElem?_eq_getElem hd3'
      generalize ord[d3] = k3 at hk3
      have hk3c : k3 < count := ordok.lt k3 (List.mem_of_getElem? hk3)
      have hm3 : nth names k3 ∈ ord.map (nth names) := List.mem_map.mpr ⟨k3, List.mem_of_getElem? hk3, rfl⟩
      ((try simp only [List.set_cons_zero, List.set_cons_succ, List.eraseIdx_cons_zero, List.eraseIdx_cons_succ, List.cons_append, List.nil_append] at H); have hH := H; (try simp only [has_cons, has_nil, dist_cons, dist_nil, ne_eq, and_true, true_and, List.set_cons_zero, List.set_cons_succ] at hH); simp only [wp_bind, wp_fl, wp_sq, wp_out, wpO_ok, wpO_ex, wpF_nx, wpF_rt, wpF_ex, wpF_bk, wpF_ct, bP_ok, bP_ex, lP_ok, lP_ex, qP_nx, qP_rt, qP_ex, qP_bk, qP_ct, oP_rt, oP_nx, oP_ex, loopP_nx, loopP_ct, loopP_bk, loopP_rt, loopP_ex, tgP_ok, wp_try, tryP_nx, tryP_rt, tryP_ct, tryP_bk, offS_rt, offS_nx, br_t, br_f, e_var0, e_varS, e_c, e_bin, a_nil, a_cons, e_fn, e_tup, asB_bl, t_val, asT_bl, t_tru, t_not, t_and, t_or, e_if, e_and, e_or, e_not, e_chain, e_fld, e_con, e_bm, e_star, WL.Q.pe_lst, pe_dict0, pe_dict0K, pe_meth, meth1_ins, con1_ins, s_seq, s_drop, s_ret, s_if, s_next, s_retN, s_asg, s_for, g_nm, g_sub, s_raise, fn_w, out_rt, out_nx, out_ex, set0, setS, lt_ii, le_ii, gt_ii, ge_ii, sub_ii, add_ii, int_i, eq_ii, ne_ii, sub_ref, sub1_lst, sub1_insF, ixSeq0, ixSeq1, ixSeq2, ixSeq3, sub_tup, set_ref, pset_ek, pset_own, startW, List.map_cons, List.map_nil, List.length_cons, List.length_nil, List.replicate_succ, List.replicate_zero, List.cons_append, List.nil_append, Nat.reduceAdd, Nat.reduceSub, Nat.add_sub_cancel, decide_true, decide_false, Bool.not_true, Bool.not_false, List.length_append, List.set_cons_zero, List.set_cons_succ, Nat.reduceLT, Nat.reduceEqDiff, ↓reduceIte, Nat.zero_ne_one, Nat.one_ne_zero, app_ref, papp1, ty_ref, isL_lst, list_ref, plist1, s_fld, ins_ref, ins1_ins, ps_fld1, putW, fldOf, getW, g_tup2, not_non, not_str, nin_in, in_ref, in1_strs, in1_dT, in1_insF, len_ref1, len1_lst, List.length_map, Nat.zero_add, getD, pe_lc, pi_range1, range1_i, WL.Q.pi_seq, itemsR_ref, items1_lst, itemsR_tup, lenO_ref, lenO1_ins, natC_int, pe_is, isB_some, isR_tup, isR_int, isR_str, isR_bl, isR_non, isR_ref, isR1_lst, isR1_ins, WL.Q.pe_prop, prop1_ins, wp_noX, nP_ok, not_bl, is_non, is_str, is_bl, notnon_bl, isnon_bl, notnon_ref, isnon_ref, is_tg, not_tg, eq_bb, ne_bb, xi, dget_some, psub_ek, list_scr, list_tup, bind_ok, bind_ex, fl_ok, fl_ex, sq_nx, sq_rt, sq_ex, sq_bk, sq_ct, optE_none, optE_some, optI_int, slice_ref, slice1_lst, slice_tup, add_ref, add2_lst, tt_and, WL.Q.pe_slice, s_prop, sprop1_ins, notnon_tup, notnon_int, pi_any, WL.Q.pe_fmt, fmtR_some, WL.Q.pe_orT, orR_t, orR_f, tru_non, just8, just2, g_tup4, hH, ix_nat hk3]; (try clear hH))
      refine sp_draw H 8 rfl 9 rfl ho (by omega) (by omega) fun pl o g hpl ho H => ?_
      have hpl' : pl < wide := by omega
      ((try simp only [List.set_cons_zero, List.set_cons_succ, List.eraseIdx_cons_zero, List.eraseIdx_cons_succ, List.cons_append, List.nil_append] at H); have hH := H; (try simp only [has_cons, has_nil, dist_cons, dist_nil, ne_eq, and_true, true_and, List.set_cons_zero, List.set_cons_succ] at hH); simp only [wp_bind, wp_fl, wp_sq, wp_out, wpO_ok, wpO_ex, wpF_nx, wpF_rt, wpF_ex, wpF_bk, wpF_ct, bP_ok, bP_ex, lP_ok, lP_ex, qP_nx, qP_rt, qP_ex, qP_bk, qP_ct, oP_rt, oP_nx, oP_ex, loopP_nx, loopP_ct, loopP_bk, loopP_rt, loopP_ex, tgP_ok, wp_try, tryP_nx, tryP_rt, tryP_ct, tryP_bk, offS_rt, offS_nx, br_t, br_f, e_var0, e_varS, e_c, e_bin, a_nil, a_cons, e_fn, e_tup, asB_bl, t_val, asT_bl, t_tru, t_not, t_and, t_or, e_if, e_and, e_or, e_not, e_chain, e_fld, e_con, e_bm, e_star, WL.Q.pe_lst, pe_dict0, pe_dict0K, pe_meth, meth1_ins, con1_ins, s_seq, s_drop, s_ret, s_if, s_next, s_retN, s_asg, s_for, g_nm, g_sub, s_raise, fn_w, out_rt, out_nx, out_ex, set0, setS, lt_ii, le_ii, gt_ii, ge_ii, sub_ii, add_ii, int_i, eq_ii, ne_ii, sub_ref, sub1_lst, sub1_insF, ixSeq0, ixSeq1, ixSeq2, ixSeq3, sub_tup, set_ref, pset_ek, pset_own, startW, List.map_cons, List.map_nil, List.length_cons, List.length_nil, List.replicate_succ, List.replicate_zero, List.cons_append, List.nil_append, Nat.reduceAdd, Nat.reduceSub, Nat.add_sub_cancel, decide_true, decide_false, Bool.not_true, Bool.not_false, List.length_append, List.set_cons_zero, List.set_cons_succ, Nat.reduceLT, Nat.reduceEqDiff, ↓reduceIte, Nat.zero_ne_one, Nat.one_ne_zero, app_ref, papp1, ty_ref, isL_lst, list_ref, plist1, s_fld, ins_ref, ins1_ins, ps_fld1, putW, fldOf, getW, g_tup2, not_non, not_str, nin_in, in_ref, in1_strs, in1_dT, in1_insF, len_ref1, len1_lst, List.length_map, Nat.zero_add, getD, pe_lc, pi_range1, range1_i, WL.Q.pi_seq, itemsR_ref, items1_lst, itemsR_tup, lenO_ref, lenO1_ins, natC_int, pe_is, isB_some, isR_tup, isR_int, isR_str, isR_bl, isR_non, isR_ref, isR1_lst, isR1_ins, WL.Q.pe_prop, prop1_ins, wp_noX, nP_ok, not_bl, is_non, is_str, is_bl, notnon_bl, isnon_bl, notnon_ref, isnon_ref, is_tg, not_tg, eq_bb, ne_bb, xi, dget_some, psub_ek, list_scr, list_tup, bind_ok, bind_ex, fl_ok, fl_ex, sq_nx, sq_rt, sq_ex, sq_bk, sq_ct, optE_none, optE_some, optI_int, slice_ref, slice1_lst, slice_tup, add_ref, add2_lst, tt_and, WL.Q.pe_slice, s_prop, sprop1_ins, notnon_tup, notnon_int, pi_any, WL.Q.pe_fmt, fmtR_some, WL.Q.pe_orT, orR_t, orR_f, tru_non, just8, just2, g_tup4, hH]; (try clear hH))
      refine sp_draw H 8 rfl 9 rfl ho (by decide) (by decide) fun a o g ha ho H => ?_
      have ha' : a < 4 := by omega
      ((try simp only [List.set_cons_zero, List.set_cons_succ, List.eraseIdx_cons_zero, List.eraseIdx_cons_succ, List.cons_append, List.nil_append] at H); have hH := H; (try simp only [has_cons, has_nil, dist_cons, dist_nil, ne_eq, and_true, true_and, List.set_cons_zero, List.set_cons_succ] at hH); simp only [wp_bind, wp_fl, wp_sq, wp_out, wpO_ok, wpO_ex, wpF_nx, wpF_rt, wpF_ex, wpF_bk, wpF_ct, bP_ok, bP_ex, lP_ok, lP_ex, qP_nx, qP_rt, qP_ex, qP_bk, qP_ct, oP_rt, oP_nx, oP_ex, loopP_nx, loopP_ct, loopP_bk, loopP_rt, loopP_ex, tgP_ok, wp_try, tryP_nx, tryP_rt, tryP_ct, tryP_bk, offS_rt, offS_nx, br_t, br_f, e_var0, e_varS, e_c, e_bin, a_nil, a_cons, e_fn, e_tup, asB_bl, t_val, asT_bl, t_tru, t_not, t_and, t_or, e_if, e_and, e_or, e_not, e_chain, e_fld, e_con, e_bm, e_star, WL.Q.pe_lst, pe_dict0, pe_dict0K, pe_meth, meth1_ins, con1_ins, s_seq, s_drop, s_ret, s_if, s_next, s_retN, s_asg, s_for, g_nm, g_sub, s_raise, fn_w, out_rt, out_nx, out_ex, set0, setS, lt_ii, le_ii, gt_ii, ge_ii, sub_ii, add_ii, int_i, eq_ii, ne_ii, sub_ref, sub1_lst, sub1_insF, ixSeq0, ixSeq1, ixSeq2, ixSeq3, sub_tup, set_ref, pset_ek, pset_own, startW, List.map_cons, List.map_nil, List.length_cons, List.length_nil, List.replicate_succ, List.replicate_zero, List.cons_append, List.nil_append, Nat.reduceAdd, Nat.reduceSub, Nat.add_sub_cancel, decide_true, decide_false, Bool.not_true, Bool.not_false, List.length_append, List.set_cons_zero, List.set_cons_succ, Nat.reduceLT, Nat.reduceEqDiff, ↓reduceIte, Nat.zero_ne_one, Nat.one_ne_zero, app_ref, papp1, ty_ref, isL_lst, list_ref, plist1, s_fld, ins_ref, ins1_ins, ps_fld1, putW, fldOf, getW, g_tup2, not_non, not_str, nin_in, in_ref, in1_strs, in1_dT, in1_insF, len_ref1, len1_lst, List.length_map, Nat.zero_add, getD, pe_lc, pi_range1, range1_i, WL.Q.pi_seq, itemsR_ref, items1_lst, itemsR_tup, lenO_ref, lenO1_ins, natC_int, pe_is, isB_some, isR_tup, isR_int, isR_str, isR_bl, isR_non, isR_ref, isR1_lst, isR1_ins, WL.Q.pe_prop, prop1_ins, wp_noX, nP_ok, not_bl, is_non, is_str, is_bl, notnon_bl, isnon_bl, notnon_ref, isnon_ref, is_tg, not_tg, eq_bb, ne_bb, xi, dget_some, psub_ek, list_scr, list_tup, bind_ok, bind_ex, fl_ok, fl_ex, sq_nx, sq_rt, sq_ex, sq_bk, sq_ct, optE_none, optE_some, optI_int, slice_ref, slice1_lst, slice_tup, add_ref, add2_lst, tt_and, WL.Q.pe_slice, s_prop, sprop1_ins, notnon_tup, notnon_int, pi_any, WL.Q.pe_fmt, fmtR_some, WL.Q.pe_orT, orR_t, orR_f, tru_non, just8, just2, g_tup4, hH]; (try clear hH))
      refine sp_draw H 8 rfl 9 rfl ho (by omega) (by omega) fun d4 o g hd4 ho H => ?_
      have hd4' : d4 < ord.length := by omega
      have hk4 := List.getElem?_eq_getElem hd4'
      generalize ord[d4] = k4 at hk4
      have hk4c : k4 < count := ordok.lt k4 (List.mem_of_getElem? hk4)
      have hm4 : nth names k4 ∈ ord.map (nth names) := List.mem_map.mpr ⟨k4, List.mem_of_getElem? hk4, rfl⟩
      ((try simp only [List.set_cons_zero, List.set_cons_succ, List.eraseIdx_cons_zero, List.eraseIdx_cons_succ, List.cons_append, List.nil_append] at H); have hH := H; (try simp only [has_cons, has_nil, dist_cons, dist_nil, ne_eq, and_true, true_and, List.set_cons_zero, List.set_cons_succ] at hH); simp only [wp_bind, wp_fl, wp_sq, wp_out, wpO_ok, wpO_ex, wpF_nx, wpF_rt, wpF_ex, wpF_bk, wpF_ct, bP_ok, bP_ex, lP_ok, lP_ex, qP_nx, qP_rt, qP_ex, qP_bk, qP_ct, oP_rt, oP_nx, oP_ex, loopP_nx, loopP_ct, loopP_bk, loopP_rt, loopP_ex, tgP_ok, wp_try, tryP_nx, tryP_rt, tryP_ct, tryP_bk, offS_rt, offS_nx, br_t, br_f, e_var0, e_varS, e_c, e_bin, a_nil, a_cons, e_fn, e_tup, asB_bl, t_val, asT_bl, t_tru, t_not, t_and, t_or, e_if, e_and, e_or, e_not, e_chain, e_fld, e_con, e_bm, e_star, WL.Q.pe_lst, pe_dict0, pe_dict0K, pe_meth, meth1_ins, con1_ins, s_seq, s_drop, s_ret, s_if, s_next, s_retN, s_asg, s_for, g_nm, g_sub, s_raise, fn_w, out_rt, out_nx, out_ex, set0, setS, lt_ii, le_ii, gt_ii, ge_ii, sub_ii, add_ii, int_i, eq_ii, ne_ii, sub_ref, sub1_lst, sub1_insF, ixSeq0, ixSeq1, ixSeq2, ixSeq3, sub_tup, set_ref, pset_ek, pset_own, startW, List.map_cons, List.map_nil, List.length_cons, List.length_nil, List.replicate_succ, List.replicate_zero, List.cons_append, List.nil_append, Nat.reduceAdd, Nat.reduceSub, Nat.add_sub_cancel, decide_true, decide_false, Bool.not_true, Bool.not_false, List.length_append, List.set_cons_zero, List.set_cons_succ, Nat.reduceLT, Nat.reduceEqDiff, ↓reduceIte, Nat.zero_ne_one, Nat.one_ne_zero, app_ref, papp1, ty_ref, isL_lst, list_ref, plist1, s_fld, ins_ref, ins1_ins, ps_fld1, putW, fldOf, getW, g_tup2, not_non, not_str, nin_in, in_ref, in1_strs, in1_dT, in1_insF, len_ref1, len1_lst, List.length_map, Nat.zero_add, getD, pe_lc, pi_range1, range1_i, WL.Q.pi_seq, itemsR_ref, items1_lst, itemsR_tup, lenO_ref, lenO1_ins, natC_int, pe_is, isB_some, isR_tup, isR_int, isR_str, isR_bl, isR_non, isR_ref, isR1_lst, isR1_ins, WL.Q.pe_prop, prop1_ins, wp_noX, nP_ok, not_bl, is_non, is_str, is_bl, notnon_bl, isnon_bl, notnon_ref, isnon_ref, is_tg, not_tg, eq_bb, ne_bb, xi, dget_some, psub_ek, list_scr, list_tup, bind_ok, bind_ex, fl_ok, fl_ex, sq_nx, sq_rt, sq_ex, sq_bk, sq_ct, optE_none, optE_some, optI_int, slice_ref, slice1_lst, slice_tup, add_ref, add2_lst, tt_and, WL.Q.pe_slice, s_prop, sprop1_ins, notnon_tup, notnon_int, pi_any, WL.Q.pe_fmt, fmtR_some, WL.Q.pe_orT, orR_t, orR_f, tru_non, just8, just2, g_tup4, hH, ix_nat hk4, fits2']; (try clear hH))
      refine sp_edge_table (ic := 2) (il := 3) (ie := 4) H ⟨rfl, rfl, rfl⟩ hw4 hnl100 hE hNo fun lb g H => ?_
      rw [due_eq hH ordok.lt] at H
      ((try simp only [List.set_cons_zero, List.set_cons_succ, List.eraseIdx_cons_zero, List.eraseIdx_cons_succ, List.cons_append, List.nil_append] at H); have hH := H; (try simp only [has_cons, has_nil, dist_cons, dist_nil, ne_eq, and_true, true_and, List.set_cons_zero, List.set_cons_succ] at hH); simp only [wp_bind, wp_fl, wp_sq, wp_out, wpO_ok, wpO_ex, wpF_nx, wpF_rt, wpF_ex, wpF_bk, wpF_ct, bP_ok, bP_ex, lP_ok, lP_ex, qP_nx, qP_rt, qP_ex, qP_bk, qP_ct, oP_rt, oP_nx, oP_ex, loopP_nx, loopP_ct, loopP_bk, loopP_rt, loopP_ex, tgP_ok, wp_try, tryP_nx, tryP_rt, tryP_ct, tryP_bk, offS_rt, offS_nx, br_t, br_f, e_var0, e_varS, e_c, e_bin, a_nil, a_cons, e_fn, e_tup, asB_bl, t_val, asT_bl, t_tru, t_not, t_and, t_or, e_if, e_and, e_or, e_not, e_chain, e_fld, e_con, e_bm, e_star, WL.Q.pe_lst, pe_dict0, pe_dict0K, pe_meth, meth1_ins, con1_ins, s_seq, s_drop, s_ret, s_if, s_next, s_retN, s_asg, s_for, g_nm, g_sub, s_raise, fn_w, out_rt, out_nx, out_ex, set0, setS, lt_ii, le_ii, gt_ii, ge_ii, sub_ii, add_ii, int_i, eq_ii, ne_ii, sub_ref, sub1_lst, sub1_insF, ixSeq0, ixSeq1, ixSeq2, ixSeq3, sub_tup, set_ref, pset_ek, pset_own, startW, List.map_cons, List.map_nil, List.length_cons, List.length_nil, List.replicate_succ, List.replicate_zero, List.cons_append, List.nil_append, Nat.reduceAdd, Nat.reduceSub, Nat.add_sub_cancel, decide_true, decide_false, Bool.not_true, Bool.not_false, List.length_append, List.set_cons_zero, List.set_cons_succ, Nat.reduceLT, Nat.reduceEqDiff, ↓reduceIte, Nat.zero_ne_one, Nat.one_ne_zero, app_ref, papp1, ty_ref, isL_lst, list_ref, plist1, s_fld, ins_ref, ins1_ins, ps_fld1, putW, fldOf, getW, g_tup2, not_non, not_str, nin_in, in_ref, in1_strs, in1_dT, in1_insF, len_ref1, len1_lst, List.length_map, Nat.zero_add, getD, pe_lc, pi_range1, range1_i, WL.Q.pi_seq, itemsR_ref, items1_lst, itemsR_tup, lenO_ref, lenO1_ins, natC_int, pe_is, isB_some, isR_tup, isR_int, isR_str, isR_bl, isR_non, isR_ref, isR1_lst, isR1_ins, WL.Q.pe_prop, prop1_ins, wp_noX, nP_ok, not_bl, is_non, is_str, is_bl, notnon_bl, isnon_bl, notnon_ref, isnon_ref, is_tg, not_tg, eq_bb, ne_bb, xi, dget_some, psub_ek, list_scr, list_tup, bind_ok, bind_ex, fl_ok, fl_ex, sq_nx, sq_rt, sq_ex, sq_bk, sq_ct, optE_none, optE_some, optI_int, slice_ref, slice1_lst, slice_tup, add_ref, add2_lst, tt_and, WL.Q.pe_slice, s_prop, sprop1_ins, notnon_tup, notnon_int, pi_any, WL.Q.pe_fmt, fmtR_some, WL.Q.pe_orT, orR_t, orR_f, tru_non, just8, just2, g_tup4, hH, ix_nth (show a < acts.length by omega), ix_nth (show k4 < names.length by omega), ix_nth (show k3 < names.length by omega), fits2']; (try clear hH))
      refine sp_set (tg := some (nth names k4)) (ic := 3) (il := 4) (ie := 5) H ⟨rfl, rfl, rfl⟩ (hNo _ hm3) (hA _ (nth_mem (by omega))) (hNo _ hm4) (by omega) (by omega) (by have := Nat.mul_le_mul (show count ≤ 10 by omega) hw4; omega) (fun h16 => by rw [grown_same hm3 hm4] at h16; rw [List.length_map] at h16; omega) fun _ ln' g H => ?_
      rw [grown_same hm3 hm4] at H
      have H := H.repl 4
      ((try simp only [List.set_cons_zero, List.set_cons_succ, List.eraseIdx_cons_zero, List.eraseIdx_cons_succ, List.cons_append, List.nil_append] at H); have hH := H; (try simp only [has_cons, has_nil, dist_cons, dist_nil, ne_eq, and_true, true_and, List.set_cons_zero, List.set_cons_succ] at hH); simp only [wp_bind, wp_fl, wp_sq, wp_out, wpO_ok, wpO_ex, wpF_nx, wpF_rt, wpF_ex, wpF_bk, wpF_ct, bP_ok, bP_ex, lP_ok, lP_ex, qP_nx, qP_rt, qP_ex, qP_bk, qP_ct, oP_rt, oP_nx, oP_ex, loopP_nx, loopP_ct, loopP_bk, loopP_rt, loopP_ex, tgP_ok, wp_try, tryP_nx, tryP_rt, tryP_ct, tryP_bk, offS_rt, offS_nx, br_t, br_f, e_var0, e_varS, e_c, e_bin, a_nil, a_cons, e_fn, e_tup, asB_bl, t_val, asT_bl, t_tru, t_not, t_and, t_or, e_if, e_and, e_or, e_not, e_chain, e_fld, e_con, e_bm, e_star, WL.Q.pe_lst, pe_dict0, pe_dict0K, pe_meth, meth1_ins, con1_ins, s_seq, s_drop, s_ret, s_if, s_next, s_retN, s_asg, s_for, g_nm, g_sub, s_raise, fn_w, out_rt, out_nx, out_ex, set0, setS, lt_ii, le_ii, gt_ii, ge_ii, sub_ii, add_ii, int_i, eq_ii, ne_ii, sub_ref, sub1_lst, sub1_insF, ixSeq0, ixSeq1, ixSeq2, ixSeq3, sub_tup, set_ref, pset_ek, pset_own, startW, List.map_cons, List.map_nil, List.length_cons, List.length_nil, List.replicate_succ, List.replicate_zero, List.cons_append, List.nil_append, Nat.reduceAdd, Nat.reduceSub, Nat.add_sub_cancel, decide_true, decide_false, Bool.not_true, Bool.not_false, List.length_append, List.set_cons_zero, List.set_cons_succ, Nat.reduceLT, Nat.reduceEqDiff, ↓reduceIte, Nat.zero_ne_one, Nat.one_ne_zero, app_ref, papp1, ty_ref, isL_lst, list_ref, plist1, s_fld, ins_ref, ins1_ins, ps_fld1, putW, fldOf, getW, g_tup2, not_non, not_str, nin_in, in_ref, in1_strs, in1_dT, in1_insF, len_ref1, len1_lst, List.length_map, Nat.zero_add, getD, pe_lc, pi_range1, range1_i, WL.Q.pi_seq, itemsR_ref, items1_lst, itemsR_tup, lenO_ref, lenO1_ins, natC_int, pe_is, isB_some, isR_tup, isR_int, isR_str, isR_bl, isR_non, isR_ref, isR1_lst, isR1_ins, WL.Q.pe_prop, prop1_ins, wp_noX, nP_ok, not_bl, is_non, is_str, is_bl, notnon_bl, isnon_bl, notnon_ref, isnon_ref, is_tg, not_tg, eq_bb, ne_bb, xi, dget_some, psub_ek, list_scr, list_tup, bind_ok, bind_ex, fl_ok, fl_ex, sq_nx, sq_rt, sq_ex, sq_bk, sq_ct, optE_none, optE_some, optI_int, slice_ref, slice1_lst, slice_tup, add_ref, add2_lst, tt_and, WL.Q.pe_slice, s_prop, sprop1_ins, notnon_tup, notnon_int, pi_any, WL.Q.pe_fmt, fmtR_some, WL.Q.pe_orT, orR_t, orR_f, tru_non, just8, just2, g_tup4, hH]; (try clear hH))
      refine sp_rowset2 (S := [(lb, _), (lt, _), (lo, _), (c, _), (ln', _), (le, _), (lA, _), (lN, _), (lr, GO.lst (refs.map .ref)), (p, o), (q, .lst (ns.map .int))]) (k := k3) (p := pl) (cell := some (a, (k4 : Nat))) 8 (fun _ => rfl) (fun _ => rfl) (fun _ => rfl) (fun _ => rfl) H rfl hrl ok hk3c (by omega) fun l5 g H => ?_
      have hcok : CellOk count (some (a, ((k4 : Nat) : Int))) := ⟨ha', by omega, by omega⟩
      have ok2 := ok.put hk3c hpl' hcok
      have hH2 := hH.upd ok nd (by omega) (a := a) (t := (k4 : Nat)) hk3c hpl'
      rw [tgOf_nat] at hH2
      have hE2 := hE.put (k := ek (nth names k3) (pl : Nat)) (hA (nth acts a) (nth_mem (by omega))) (show TgOk (some (nth names k4)) from hNo _ hm4)
      generalize rowPut rows k3 pl (some (a, ((k4 : Nat) : Int))) = rows2 at ok2 hH2 H
      generalize putKW (ek (nth names k3) (pl : Nat)) (.tup [.str (nth acts a), tgW (some (nth names k4))]) edges = edges2 at hH2 hE2 H
      have hrl2 : (refs.set k3 l5).length = count := by rw [List.length_set]; exact hrl
      generalize refs.set k3 l5 = refs2 at hrl2 H
      ((try simp only [List.set_cons_zero, List.set_cons_succ, List.eraseIdx_cons_zero, List.eraseIdx_cons_succ, List.cons_append, List.nil_append] at H); have hH := H; (try simp only [has_cons, has_nil, dist_cons, dist_nil, ne_eq, and_true, true_and, List.set_cons_zero, List.set_cons_succ] at hH); simp only [wp_bind, wp_fl, wp_sq, wp_out, wpO_ok, wpO_ex, wpF_nx, wpF_rt, wpF_ex, wpF_bk, wpF_ct, bP_ok, bP_ex, lP_ok, lP_ex, qP_nx, qP_rt, qP_ex, qP_bk, qP_ct, oP_rt, oP_nx, oP_ex, loopP_nx, loopP_ct, loopP_bk, loopP_rt, loopP_ex, tgP_ok, wp_try, tryP_nx, tryP_rt, tryP_ct, tryP_bk, offS_rt, offS_nx, br_t, br_f, e_var0, e_varS, e_c, e_bin, a_nil, a_cons, e_fn, e_tup, asB_bl, t_val, asT_bl, t_tru, t_not, t_and, t_or, e_if, e_and, e_or, e_not, e_chain, e_fld, e_con, e_bm, e_star, WL.Q.pe_lst, pe_dict0, pe_dict0K, pe_meth, meth1_ins, con1_ins, s_seq, s_drop, s_ret, s_if, s_next, s_retN, s_asg, s_for, g_nm, g_sub, s_raise, fn_w, out_rt, out_nx, out_ex, set0, setS, lt_ii, le_ii, gt_ii, ge_ii, sub_ii, add_ii, int_i, eq_ii, ne_ii, sub_ref, sub1_lst, sub1_insF, ixSeq0, ixSeq1, ixSeq2, ixSeq3, sub_tup, set_ref, pset_ek, pset_own, startW, List.map_cons, List.map_nil, List.length_cons, List.length_nil, List.replicate_succ, List.replicate_zero, List.cons_append, List.nil_append, Nat.reduceAdd, Nat.reduceSub, Nat.add_sub_cancel, decide_true, decide_false, Bool.not_true, Bool.not_false, List.length_append, List.set_cons_zero, List.set_cons_succ, Nat.reduceLT, Nat.reduceEqDiff, ↓reduceIte, Nat.zero_ne_one, Nat.one_ne_zero, app_ref, papp1, ty_ref, isL_lst, list_ref, plist1, s_fld, ins_ref, ins1_ins, ps_fld1, putW, fldOf, getW, g_tup2, not_non, not_str, nin_in, in_ref, in1_strs, in1_dT, in1_insF, len_ref1, len1_lst, List.length_map, Nat.zero_add, getD, pe_lc, pi_range1, range1_i, WL.Q.pi_seq, itemsR_ref, items1_lst, itemsR_tup, lenO_ref, lenO1_ins, natC_int, pe_is, isB_some, isR_tup, isR_int, isR_str, isR_bl, isR_non, isR_ref, isR1_lst, isR1_ins, WL.Q.pe_prop, prop1_ins, wp_noX, nP_ok, not_bl, is_non, is_str, is_bl, notnon_bl, isnon_bl, notnon_ref, isnon_ref, is_tg, not_tg, eq_bb, ne_bb, xi, dget_some, psub_ek, list_scr, list_tup, bind_ok, bind_ex, fl_ok, fl_ex, sq_nx, sq_rt, sq_ex, sq_bk, sq_ct, optE_none, optE_some, optI_int, slice_ref, slice1_lst, slice_tup, add_ref, add2_lst, tt_and, WL.Q.pe_slice, s_prop, sprop1_ins, notnon_tup, notnon_int, pi_any, WL.Q.pe_fmt, fmtR_some, WL.Q.pe_orT, orR_t, orR_f, tru_non, just8, just2, g_tup4, hH, show fits 0 = true from rfl]; (try clear hH))
      refine wp_alloc H fun lx g H => ?_
      ((try simp only [List.set_cons_zero, List.set_cons_succ, List.eraseIdx_cons_zero, List.eraseIdx_cons_succ, List.cons_append, List.nil_append] at H); have hH := H; (try simp only [has_cons, has_nil, dist_cons, dist_nil, ne_eq, and_true, true_and, List.set_cons_zero, List.set_cons_succ] at hH); simp only [wp_bind, wp_fl, wp_sq, wp_out, wpO_ok, wpO_ex, wpF_nx, wpF_rt, wpF_ex, wpF_bk, wpF_ct, bP_ok, bP_ex, lP_ok, lP_ex, qP_nx, qP_rt, qP_ex, qP_bk, qP_ct, oP_rt, oP_nx, oP_ex, loopP_nx, loopP_ct, loopP_bk, loopP_rt, loopP_ex, tgP_ok, wp_try, tryP_nx, tryP_rt, tryP_ct, tryP_bk, offS_rt, offS_nx, br_t, br_f, e_var0, e_varS, e_c, e_bin, a_nil, a_cons, e_fn, e_tup, asB_bl, t_val, asT_bl, t_tru, t_not, t_and, t_or, e_if, e_and, e_or, e_not, e_chain, e_fld, e_con, e_bm, e_star, WL.Q.pe_lst, pe_dict0, pe_dict0K, pe_meth, meth1_ins, con1_ins, s_seq, s_drop, s_ret, s_if, s_next, s_retN, s_asg, s_for, g_nm, g_sub, s_raise, fn_w, out_rt, out_nx, out_ex, set0, setS, lt_ii, le_ii, gt_ii, ge_ii, sub_ii, add_ii, int_i, eq_ii, ne_ii, sub_ref, sub1_lst, sub1_insF, ixSeq0, ixSeq1, ixSeq2, ixSeq3, sub_tup, set_ref, pset_ek, pset_own, startW, List.map_cons, List.map_nil, List.length_cons, List.length_nil, List.replicate_succ, List.replicate_zero, List.cons_append, List.nil_append, Nat.reduceAdd, Nat.reduceSub, Nat.add_sub_cancel, decide_true, decide_false, Bool.not_true, Bool.not_false, List.length_append, List.set_cons_zero, List.set_cons_succ, Nat.reduceLT, Nat.reduceEqDiff, ↓reduceIte, Nat.zero_ne_one, Nat.one_ne_zero, app_ref, papp1, ty_ref, isL_lst, list_ref, plist1, s_fld, ins_ref, ins1_ins, ps_fld1, putW, fldOf, getW, g_tup2, not_non, not_str, nin_in, in_ref, in1_strs, in1_dT, in1_insF, len_ref1, len1_lst, List.length_map, Nat.zero_add, getD, pe_lc, pi_range1, range1_i, WL.Q.pi_seq, itemsR_ref, items1_lst, itemsR_tup, lenO_ref, lenO1_ins, natC_int, pe_is, isB_some, isR_tup, isR_int, isR_str, isR_bl, isR_non, isR_ref, isR1_lst, isR1_ins, WL.Q.pe_prop, prop1_ins, wp_noX, nP_ok, not_bl, is_non, is_str, is_bl, notnon_bl, isnon_bl, notnon_ref, isnon_ref, is_tg, not_tg, eq_bb, ne_bb, xi, dget_some, psub_ek, list_scr, list_tup, bind_ok, bind_ex, fl_ok, fl_ex, sq_nx, sq_rt, sq_ex, sq_bk, sq_ct, optE_none, optE_some, optI_int, slice_ref, slice1_lst, slice_tup, add_ref, add2_lst, tt_and, WL.Q.pe_slice, s_prop, sprop1_ins, notnon_tup, notnon_int, pi_any, WL.Q.pe_fmt, fmtR_some, WL.Q.pe_orT, orR_t, orR_f, tru_non, just8, just2, g_tup4, hH, any_chart (ic := 4) (il := 5) (ie := 6) H ⟨rfl, rfl, rfl⟩]; (try clear hH))
      have okd2 := okDue ok2 hN (by omega : count ≤ names.length) hA (by omega) ordok.lt hw4
      refine exp_loop (ir := 8) (off := 11) (iN := 7) (iA := 6) (il := 4) (acts := acts) (ord := ord) (.mk' (S' := [(lb, _), (lt, _), (lo, _), (c, _), (ln', _), (le, _), (lA, _), (lN, _), (lr, _), (p, o), (q, _)]) rfl (hrl2.trans ok2.len.symm) rfl) ok2 rfl rfl rfl hN nd (by omega) hA (by omega) ordok (by omega) hw4 H fun o12 o15 o16 o17 g H => ?_
      unfold law_r5
      ((try simp only [List.set_cons_zero, List.set_cons_succ, List.eraseIdx_cons_zero, List.eraseIdx_cons_succ, List.cons_append, List.nil_append] at H); have hH := H; (try simp only [has_cons, has_nil, dist_cons, dist_nil, ne_eq, and_true, true_and, List.set_cons_zero, List.set_cons_succ] at hH); simp only [wp_bind, wp_fl, wp_sq, wp_out, wpO_ok, wpO_ex, wpF_nx, wpF_rt, wpF_ex, wpF_bk, wpF_ct, bP_ok, bP_ex, lP_ok, lP_ex, qP_nx, qP_rt, qP_ex, qP_bk, qP_ct, oP_rt, oP_nx, oP_ex, loopP_nx, loopP_ct, loopP_bk, loopP_rt, loopP_ex, tgP_ok, wp_try, tryP_nx, tryP_rt, tryP_ct, tryP_bk, offS_rt, offS_nx, br_t, br_f, e_var0, e_varS, e_c, e_bin, a_nil, a_cons, e_fn, e_tup, asB_bl, t_val, asT_bl, t_tru, t_not, t_and, t_or, e_if, e_and, e_or, e_not, e_chain, e_fld, e_con, e_bm, e_star, WL.Q.pe_lst, pe_dict0, pe_dict0K, pe_meth, meth1_ins, con1_ins, s_seq, s_drop, s_ret, s_if, s_next, s_retN, s_asg, s_for, g_nm, g_sub, s_raise, fn_w, out_rt, out_nx, out_ex, set0, setS, lt_ii, le_ii, gt_ii, ge_ii, sub_ii, add_ii, int_i, eq_ii, ne_ii, sub_ref, sub1_lst, sub1_insF, ixSeq0, ixSeq1, ixSeq2, ixSeq3, sub_tup, set_ref, pset_ek, pset_own, startW, List.map_cons, List.map_nil, List.length_cons, List.length_nil, List.replicate_succ, List.replicate_zero, List.cons_append, List.nil_append, Nat.reduceAdd, Nat.reduceSub, Nat.add_sub_cancel, decide_true, decide_false, Bool.not_true, Bool.not_false, List.length_append, List.set_cons_zero, List.set_cons_succ, Nat.reduceLT, Nat.reduceEqDiff, ↓reduceIte, Nat.zero_ne_one, Nat.one_ne_zero, app_ref, papp1, ty_ref, isL_lst, list_ref, plist1, s_fld, ins_ref, ins1_ins, ps_fld1, putW, fldOf, getW, g_tup2, not_non, not_str, nin_in, in_ref, in1_strs, in1_dT, in1_insF, len_ref1, len1_lst, List.length_map, Nat.zero_add, getD, pe_lc, pi_range1, range1_i, WL.Q.pi_seq, itemsR_ref, items1_lst, itemsR_tup, lenO_ref, lenO1_ins, natC_int, pe_is, isB_some, isR_tup, isR_int, isR_str, isR_bl, isR_non, isR_ref, isR1_lst, isR1_ins, WL.Q.pe_prop, prop1_ins, wp_noX, nP_ok, not_bl, is_non, is_str, is_bl, notnon_bl, isnon_bl, notnon_ref, isnon_ref, is_tg, not_tg, eq_bb, ne_bb, xi, dget_some, psub_ek, list_scr, list_tup, bind_ok, bind_ex, fl_ok, fl_ex, sq_nx, sq_rt, sq_ex, sq_bk, sq_ct, optE_none, optE_some, optI_int, slice_ref, slice1_lst, slice_tup, add_ref, add2_lst, tt_and, WL.Q.pe_slice, s_prop, sprop1_ins, notnon_tup, notnon_int, pi_any, WL.Q.pe_fmt, fmtR_some, WL.Q.pe_orT, orR_t, orR_f, tru_non, just8, just2, g_tup4, hH]; (try clear hH))
      refine sp_edge_table (ic := 4) (il := 5) (ie := 6) H ⟨rfl, rfl, rfl⟩ hw4 hnl100 hE2 hNo fun l7 g H => ?_
      rw [due_eq hH2 ordok.lt] at H
      ((try simp only [List.set_cons_zero, List.set_cons_succ, List.eraseIdx_cons_zero, List.eraseIdx_cons_succ, List.cons_append, List.nil_append] at H); have hH := H; (try simp only [has_cons, has_nil, dist_cons, dist_nil, ne_eq, and_true, true_and, List.set_cons_zero, List.set_cons_succ] at hH); simp only [wp_bind, wp_fl, wp_sq, wp_out, wpO_ok, wpO_ex, wpF_nx, wpF_rt, wpF_ex, wpF_bk, wpF_ct, bP_ok, bP_ex, lP_ok, lP_ex, qP_nx, qP_rt, qP_ex, qP_bk, qP_ct, oP_rt, oP_nx, oP_ex, loopP_nx, loopP_ct, loopP_bk, loopP_rt, loopP_ex, tgP_ok, wp_try, tryP_nx, tryP_rt, tryP_ct, tryP_bk, offS_rt, offS_nx, br_t, br_f, e_var0, e_varS, e_c, e_bin, a_nil, a_cons, e_fn, e_tup, asB_bl, t_val, asT_bl, t_tru, t_not, t_and, t_or, e_if, e_and, e_or, e_not, e_chain, e_fld, e_con, e_bm, e_star, WL.Q.pe_lst, pe_dict0, pe_dict0K, pe_meth, meth1_ins, con1_ins, s_seq, s_drop, s_ret, s_if, s_next, s_retN, s_asg, s_for, g_nm, g_sub, s_raise, fn_w, out_rt, out_nx, out_ex, set0, setS, lt_ii, le_ii, gt_ii, ge_ii, sub_ii, add_ii, int_i, eq_ii, ne_ii, sub_ref, sub1_lst, sub1_insF, ixSeq0, ixSeq1, ixSeq2, ixSeq3, sub_tup, set_ref, pset_ek, pset_own, startW, List.map_cons, List.map_nil, List.length_cons, List.length_nil, List.replicate_succ, List.replicate_zero, List.cons_append, List.nil_append, Nat.reduceAdd, Nat.reduceSub, Nat.add_sub_cancel, decide_true, decide_false, Bool.not_true, Bool.not_false, List.length_append, List.set_cons_zero, List.set_cons_succ, Nat.reduceLT, Nat.reduceEqDiff, ↓reduceIte, Nat.zero_ne_one, Nat.one_ne_zero, app_ref, papp1, ty_ref, isL_lst, list_ref, plist1, s_fld, ins_ref, ins1_ins, ps_fld1, putW, fldOf, getW, g_tup2, not_non, not_str, nin_in, in_ref, in1_strs, in1_dT, in1_insF, len_ref1, len1_lst, List.length_map, Nat.zero_add, getD, pe_lc, pi_range1, range1_i, WL.Q.pi_seq, itemsR_ref, items1_lst, itemsR_tup, lenO_ref, lenO1_ins, natC_int, pe_is, isB_some, isR_tup, isR_int, isR_str, isR_bl, isR_non, isR_ref, isR1_lst, isR1_ins, WL.Q.pe_prop, prop1_ins, wp_noX, nP_ok, not_bl, is_non, is_str, is_bl, notnon_bl, isnon_bl, notnon_ref, isnon_ref, is_tg, not_tg, eq_bb, ne_bb, xi, dget_some, psub_ek, list_scr, list_tup, bind_ok, bind_ex, fl_ok, fl_ex, sq_nx, sq_rt, sq_ex, sq_bk, sq_ct, optE_none, optE_some, optI_int, slice_ref, slice1_lst, slice_tup, add_ref, add2_lst, tt_and, WL.Q.pe_slice, s_prop, sprop1_ins, notnon_tup, notnon_int, pi_any, WL.Q.pe_fmt, fmtR_some, WL.Q.pe_orT, orR_t, orR_f, tru_non, just8, just2, g_tup4, hH, eq_lsts (H.get (i := 0) rfl) (H.get (i := 1) rfl) okd2, cut_last, List.dropLast_concat]; (try clear hH))
      refine wp_alloc H fun l8 g H => ?_
      ((try simp only [List.set_cons_zero, List.set_cons_succ, List.eraseIdx_cons_zero, List.eraseIdx_cons_succ, List.cons_append, List.nil_append] at H); have hH := H; (try simp only [has_cons, has_nil, dist_cons, dist_nil, ne_eq, and_true, true_and, List.set_cons_zero, List.set_cons_succ] at hH); simp only [wp_bind, wp_fl, wp_sq, wp_out, wpO_ok, wpO_ex, wpF_nx, wpF_rt, wpF_ex, wpF_bk, wpF_ct, bP_ok, bP_ex, lP_ok, lP_ex, qP_nx, qP_rt, qP_ex, qP_bk, qP_ct, oP_rt, oP_nx, oP_ex, loopP_nx, loopP_ct, loopP_bk, loopP_rt, loopP_ex, tgP_ok, wp_try, tryP_nx, tryP_rt, tryP_ct, tryP_bk, offS_rt, offS_nx, br_t, br_f, e_var0, e_varS, e_c, e_bin, a_nil, a_cons, e_fn, e_tup, asB_bl, t_val, asT_bl, t_tru, t_not, t_and, t_or, e_if, e_and, e_or, e_not, e_chain, e_fld, e_con, e_bm, e_star, WL.Q.pe_lst, pe_dict0, pe_dict0K, pe_meth, meth1_ins, con1_ins, s_seq, s_drop, s_ret, s_if, s_next, s_retN, s_asg, s_for, g_nm, g_sub, s_raise, fn_w, out_rt, out_nx, out_ex, set0, setS, lt_ii, le_ii, gt_ii, ge_ii, sub_ii, add_ii, int_i, eq_ii, ne_ii, sub_ref, sub1_lst, sub1_insF, ixSeq0, ixSeq1, ixSeq2, ixSeq3, sub_tup, set_ref, pset_ek, pset_own, startW, List.map_cons, List.map_nil, List.length_cons, List.length_nil, List.replicate_succ, List.replicate_zero, List.cons_append, List.nil_append, Nat.reduceAdd, Nat.reduceSub, Nat.add_sub_cancel, decide_true, decide_false, Bool.not_true, Bool.not_false, List.length_append, List.set_cons_zero, List.set_cons_succ, Nat.reduceLT, Nat.reduceEqDiff, ↓reduceIte, Nat.zero_ne_one, Nat.one_ne_zero, app_ref, papp1, ty_ref, isL_lst, list_ref, plist1, s_fld, ins_ref, ins1_ins, ps_fld1, putW, fldOf, getW, g_tup2, not_non, not_str, nin_in, in_ref, in1_strs, in1_dT, in1_insF, len_ref1, len1_lst, List.length_map, Nat.zero_add, getD, pe_lc, pi_range1, range1_i, WL.Q.pi_seq, itemsR_ref, items1_lst, itemsR_tup, lenO_ref, lenO1_ins, natC_int, pe_is, isB_some, isR_tup, isR_int, isR_str, isR_bl, isR_non, isR_ref, isR1_lst, isR1_ins, WL.Q.pe_prop, prop1_ins, wp_noX, nP_ok, not_bl, is_non, is_str, is_bl, notnon_bl, isnon_bl, notnon_ref, isnon_ref, is_tg, not_tg, eq_bb, ne_bb, xi, dget_some, psub_ek, list_scr, list_tup, bind_ok, bind_ex, fl_ok, fl_ex, sq_nx, sq_rt, sq_ex, sq_bk, sq_ct, optE_none, optE_some, optI_int, slice_ref, slice1_lst, slice_tup, add_ref, add2_lst, tt_and, WL.Q.pe_slice, s_prop, sprop1_ins, notnon_tup, notnon_int, pi_any, WL.Q.pe_fmt, fmtR_some, WL.Q.pe_orT, orR_t, orR_f, tru_non, just8, just2, g_tup4, hH, eq_lsts (H.get (i := 3) rfl) (H.get (i := 0) rfl) okd]; (try clear hH))
      refine sp_listC (ic := 6) (il := 7) (ie := 8) H ⟨rfl, rfl, rfl⟩ (by omega) fun l9 g H => ?_
      ((try simp only [List.set_cons_zero, List.set_cons_succ, List.eraseIdx_cons_zero, List.eraseIdx_cons_succ, List.cons_append, List.nil_append] at H); have hH := H; (try simp only [has_cons, has_nil, dist_cons, dist_nil, ne_eq, and_true, true_and, List.set_cons_zero, List.set_cons_succ] at hH); simp only [wp_bind, wp_fl, wp_sq, wp_out, wpO_ok, wpO_ex, wpF_nx, wpF_rt, wpF_ex, wpF_bk, wpF_ct, bP_ok, bP_ex, lP_ok, lP_ex, qP_nx, qP_rt, qP_ex, qP_bk, qP_ct, oP_rt, oP_nx, oP_ex, loopP_nx, loopP_ct, loopP_bk, loopP_rt, loopP_ex, tgP_ok, wp_try, tryP_nx, tryP_rt, tryP_ct, tryP_bk, offS_rt, offS_nx, br_t, br_f, e_var0, e_varS, e_c, e_bin, a_nil, a_cons, e_fn, e_tup, asB_bl, t_val, asT_bl, t_tru, t_not, t_and, t_or, e_if, e_and, e_or, e_not, e_chain, e_fld, e_con, e_bm, e_star, WL.Q.pe_lst, pe_dict0, pe_dict0K, pe_meth, meth1_ins, con1_ins, s_seq, s_drop, s_ret, s_if, s_next, s_retN, s_asg, s_for, g_nm, g_sub, s_raise, fn_w, out_rt, out_nx, out_ex, set0, setS, lt_ii, le_ii, gt_ii, ge_ii, sub_ii, add_ii, int_i, eq_ii, ne_ii, sub_ref, sub1_lst, sub1_insF, ixSeq0, ixSeq1, ixSeq2, ixSeq3, sub_tup, set_ref, pset_ek, pset_own, startW, List.map_cons, List.map_nil, List.length_cons, List.length_nil, List.replicate_succ, List.replicate_zero, List.cons_append, List.nil_append, Nat.reduceAdd, Nat.reduceSub, Nat.add_sub_cancel, decide_true, decide_false, Bool.not_true, Bool.not_false, List.length_append, List.set_cons_zero, List.set_cons_succ, Nat.reduceLT, Nat.reduceEqDiff, ↓reduceIte, Nat.zero_ne_one, Nat.one_ne_zero, app_ref, papp1, ty_ref, isL_lst, list_ref, plist1, s_fld, ins_ref, ins1_ins, ps_fld1, putW, fldOf, getW, g_tup2, not_non, not_str, nin_in, in_ref, in1_strs, in1_dT, in1_insF, len_ref1, len1_lst, List.length_map, Nat.zero_add, getD, pe_lc, pi_range1, range1_i, WL.Q.pi_seq, itemsR_ref, items1_lst, itemsR_tup, lenO_ref, lenO1_ins, natC_int, pe_is, isB_some, isR_tup, isR_int, isR_str, isR_bl, isR_non, isR_ref, isR1_lst, isR1_ins, WL.Q.pe_prop, prop1_ins, wp_noX, nP_ok, not_bl, is_non, is_str, is_bl, notnon_bl, isnon_bl, notnon_ref, isnon_ref, is_tg, not_tg, eq_bb, ne_bb, xi, dget_some, psub_ek, list_scr, list_tup, bind_ok, bind_ex, fl_ok, fl_ex, sq_nx, sq_rt, sq_ex, sq_bk, sq_ct, optE_none, optE_some, optI_int, slice_ref, slice1_lst, slice_tup, add_ref, add2_lst, tt_and, WL.Q.pe_slice, s_prop, sprop1_ins, notnon_tup, notnon_int, pi_any, WL.Q.pe_fmt, fmtR_some, WL.Q.pe_orT, orR_t, orR_f, tru_non, just8, just2, g_tup4, hH]; (try clear hH))
      refine wp_lcMap (fun w => [some (.scr ns), some (.ref p), some (.ref lr), some (.int wide), o4, some (.int (k3 : Nat)), some (.int (pl : Nat)), some (.ref lN), some (.ref lA), some (.ref c), some (.ref lo), some (.ref lt), o12, some (.ref lb), some (.ref lx), o15, o16, o17, some w]) (fun w => match w with | .int k => W.str (nth names k.toNat) | _ => .non) H (StillS.at 6 rfl) (by dsimp only; rw [List.length_map]; omega) (fun _ _ _ => rfl) (fun w hw L acc g' H => ?_) fun l10 g H => ?_
      · obtain ⟨kk, hkk, rfl⟩ := List.mem_map.mp hw
        have := ordok.lt kk hkk
        unfold law_le4
        ((try simp only [List.set_cons_zero, List.set_cons_succ, List.eraseIdx_cons_zero, List.eraseIdx_cons_succ, List.cons_append, List.nil_append] at H); have hH := H; (try simp only [has_cons, has_nil, dist_cons, dist_nil, ne_eq, and_true, true_and, List.set_cons_zero, List.set_cons_succ] at hH); simp only [wp_bind, wp_fl, wp_sq, wp_out, wpO_ok, wpO_ex, wpF_nx, wpF_rt, wpF_ex, wpF_bk, wpF_ct, bP_ok, bP_ex, lP_ok, lP_ex, qP_nx, qP_rt, qP_ex, qP_bk, qP_ct, oP_rt, oP_nx, oP_ex, loopP_nx, loopP_ct, loopP_bk, loopP_rt, loopP_ex, tgP_ok, wp_try, tryP_nx, tryP_rt, tryP_ct, tryP_bk, offS_rt, offS_nx, br_t, br_f, e_var0, e_varS, e_c, e_bin, a_nil, a_cons, e_fn, e_tup, asB_bl, t_val, asT_bl, t_tru, t_not, t_and, t_or, e_if, e_and, e_or, e_not, e_chain, e_fld, e_con, e_bm, e_star, WL.Q.pe_lst, pe_dict0, pe_dict0K, pe_meth, meth1_ins, con1_ins, s_seq, s_drop, s_ret, s_if, s_next, s_retN, s_asg, s_for, g_nm, g_sub, s_raise, fn_w, out_rt, out_nx, out_ex, set0, setS, lt_ii, le_ii, gt_ii, ge_ii, sub_ii, add_ii, int_i, eq_ii, ne_ii, sub_ref, sub1_lst, sub1_insF, ixSeq0, ixSeq1, ixSeq2, ixSeq3, sub_tup, set_ref, pset_ek, pset_own, startW, List.map_cons, List.map_nil, List.length_cons, List.length_nil, List.replicate_succ, List.replicate_zero, List.cons_append, List.nil_append, Nat.reduceAdd, Nat.reduceSub, Nat.add_sub_cancel, decide_true, decide_false, Bool.not_true, Bool.not_false, List.length_append, List.set_cons_zero, List.set_cons_succ, Nat.reduceLT, Nat.reduceEqDiff, ↓reduceIte, Nat.zero_ne_one, Nat.one_ne_zero, app_ref, papp1, ty_ref, isL_lst, list_ref, plist1, s_fld, ins_ref, ins1_ins, ps_fld1, putW, fldOf, getW, g_tup2, not_non, not_str, nin_in, in_ref, in1_strs, in1_dT, in1_insF, len_ref1, len1_lst, List.length_map, Nat.zero_add, getD, pe_lc, pi_range1, range1_i, WL.Q.pi_seq, itemsR_ref, items1_lst, itemsR_tup, lenO_ref, lenO1_ins, natC_int, pe_is, isB_some, isR_tup, isR_int, isR_str, isR_bl, isR_non, isR_ref, isR1_lst, isR1_ins, WL.Q.pe_prop, prop1_ins, wp_noX, nP_ok, not_bl, is_non, is_str, is_bl, notnon_bl, isnon_bl, notnon_ref, isnon_ref, is_tg, not_tg, eq_bb, ne_bb, xi, dget_some, psub_ek, list_scr, list_tup, bind_ok, bind_ex, fl_ok, fl_ex, sq_nx, sq_rt, sq_ex, sq_bk, sq_ct, optE_none, optE_some, optI_int, slice_ref, slice1_lst, slice_tup, add_ref, add2_lst, tt_and, WL.Q.pe_slice, s_prop, sprop1_ins, notnon_tup, notnon_int, pi_any, WL.Q.pe_fmt, fmtR_some, WL.Q.pe_orT, orR_t, orR_f, tru_non, just8, just2, g_tup4, hH, natW, ix_nth (show kk < names.length by omega)]; (try clear hH))
        exact endsP_ok H
      · dsimp only at H
        rw [lc_names] at H
        ((try simp only [List.set_cons_zero, List.set_cons_succ, List.eraseIdx_cons_zero, List.eraseIdx_cons_succ, List.cons_append, List.nil_append] at H); have hH := H; (try simp only [has_cons, has_nil, dist_cons, dist_nil, ne_eq, and_true, true_and, List.set_cons_zero, List.set_cons_succ] at hH); simp only [wp_bind, wp_fl, wp_sq, wp_out, wpO_ok, wpO_ex, wpF_nx, wpF_rt, wpF_ex, wpF_bk, wpF_ct, bP_ok, bP_ex, lP_ok, lP_ex, qP_nx, qP_rt, qP_ex, qP_bk, qP_ct, oP_rt, oP_nx, oP_ex, loopP_nx, loopP_ct, loopP_bk, loopP_rt, loopP_ex, tgP_ok, wp_try, tryP_nx, tryP_rt, tryP_ct, tryP_bk, offS_rt, offS_nx, br_t, br_f, e_var0, e_varS, e_c, e_bin, a_nil, a_cons, e_fn, e_tup, asB_bl, t_val, asT_bl, t_tru, t_not, t_and, t_or, e_if, e_and, e_or, e_not, e_chain, e_fld, e_con, e_bm, e_star, WL.Q.pe_lst, pe_dict0, pe_dict0K, pe_meth, meth1_ins, con1_ins, s_seq, s_drop, s_ret, s_if, s_next, s_retN, s_asg, s_for, g_nm, g_sub, s_raise, fn_w, out_rt, out_nx, out_ex, set0, setS, lt_ii, le_ii, gt_ii, ge_ii, sub_ii, add_ii, int_i, eq_ii, ne_ii, sub_ref, sub1_lst, sub1_insF, ixSeq0, ixSeq1, ixSeq2, ixSeq3, sub_tup, set_ref, pset_ek, pset_own, startW, List.map_cons, List.map_nil, List.length_cons, List.length_nil, List.replicate_succ, List.replicate_zero, List.cons_append, List.nil_append, Nat.reduceAdd, Nat.reduceSub, Nat.add_sub_cancel, decide_true, decide_false, Bool.not_true, Bool.not_false, List.length_append, List.set_cons_zero, List.set_cons_succ, Nat.reduceLT, Nat.reduceEqDiff, ↓reduceIte, Nat.zero_ne_one, Nat.one_ne_zero, app_ref, papp1, ty_ref, isL_lst, list_ref, plist1, s_fld, ins_ref, ins1_ins, ps_fld1, putW, fldOf, getW, g_tup2, not_non, not_str, nin_in, in_ref, in1_strs, in1_dT, in1_insF, len_ref1, len1_lst, List.length_map, Nat.zero_add, getD, pe_lc, pi_range1, range1_i, WL.Q.pi_seq, itemsR_ref, items1_lst, itemsR_tup, lenO_ref, lenO1_ins, natC_int, pe_is, isB_some, isR_tup, isR_int, isR_str, isR_bl, isR_non, isR_ref, isR1_lst, isR1_ins, WL.Q.pe_prop, prop1_ins, wp_noX, nP_ok, not_bl, is_non, is_str, is_bl, notnon_bl, isnon_bl, notnon_ref, isnon_ref, is_tg, not_tg, eq_bb, ne_bb, xi, dget_some, psub_ek, list_scr, list_tup, bind_ok, bind_ex, fl_ok, fl_ex, sq_nx, sq_rt, sq_ex, sq_bk, sq_ct, optE_none, optE_some, optI_int, slice_ref, slice1_lst, slice_tup, add_ref, add2_lst, tt_and, WL.Q.pe_slice, s_prop, sprop1_ins, notnon_tup, notnon_int, pi_any, WL.Q.pe_fmt, fmtR_some, WL.Q.pe_orT, orR_t, orR_f, tru_non, just8, just2, g_tup4, hH, eq_lsts (H.get (i := 1) rfl) (H.get (i := 0) rfl) (okWs_strs hNo)]; (try clear hH))
        exact ⟨_, rfl⟩
end K12
end WL
end
section
set_option maxRecDepth 100000
set_option maxHeartbeats 4000000
namespace WL
namespace K12
open PySem PySem.Spec L2
open PyProof.Rows hiding St
open WL.Q
abbrev top (i : Nat) : Stmt := PySem.Challenge.pw_strikeloops_k12_edge_tables.main.body.getD i (.Pass ⟨0, 0, 0, 0⟩)
structure Ad where
  draw : Addr
  rows : Addr
  word : Addr
  words : Addr
  BadOutcome : Addr
  LoopError : Addr
  is_name : Addr
  BadName : Addr
  check_name : Addr
  Chart_init : Addr
  Chart : Addr
  TooLarge : Addr
  Chart_setitem : Addr
  part : Addr
  order : Addr
  NoNode : Addr
  Chart_start_set : Addr
  Chart_start_prop : Addr
  Chart_start_at : Addr
  Chart_edges : Addr
  edge_table : Addr
  due : Addr
  Chart_len : Addr
  Chart_iter : Addr
  law : Addr
def fnsL : List Str := ["outcomes", "_start", "_nodes", "_edges", "name", "outcome", "node", "most"]
def tab (K : PySem.W.Frag) (a : Ad) : Tab where
  K := K
  cls := fun c => match c with | 0 => some a.Chart | 1 => some a.BadName | 2 => some a.BadOutcome | 3 => some a.NoNode | 5 => some a.TooLarge | _ => none
  fns := fnsL
  nd := by decide +kernel
instance {K : PySem.W.Frag} {a : Ad} : NoEx (tab K a) := ⟨rfl⟩
structure Fx (P : Program) (w : World) (K : PySem.W.Frag) (mg : Str → Option Value) (a : Ad) : Prop where
  n_list : mg "list" = none
  n_len : mg "len" = none
  n_abs : mg "abs" = none
  n_int : mg "int" = none
  f_draw : FunX K "_law_draw" "_law_draw" (top 19) a.draw ["_law_pool", "_law_limit"]
  g_draw : mg "_law_draw" = some (.ref a.draw)
  n_min : mg "min" = none
  n_range : mg "range" = none
  f_rows : FunX K "_law_rows" "_law_rows" (top 22) a.rows ["_law_pool", "_law_most", "_law_edges"]
  g_rows : mg "_law_rows" = some (.ref a.rows)
  f_word : FunX K "_law_word" "_law_word" (top 20) a.word ["_law_number"]
  g_word : mg "_law_word" = some (.ref a.word)
  f_words : FunX K "_law_words" "_law_words" (top 21) a.words ["_law_pool", "_law_count"]
  g_words : mg "_law_words" = some (.ref a.words)
  g_MOST_OUTCOMES : ∃ t, mg "MOST_OUTCOMES" = some (.int 4 t)
  x_BadOutcome : ExcA P w K mg a.BadOutcome a.LoopError "BadOutcome" ["outcome"]
  g_FIRST : ∃ t, mg "FIRST" = some (.str "abcdefghijklmnopqrstuvwxyz" t)
  g_OTHERS : ∃ t, mg "OTHERS" = some (.str "abcdefghijklmnopqrstuvwxyz0123456789" t)
  n_all : mg "all" = none
  f_is_name : FunX K "is_name" "is_name" (top 12) a.is_name ["name"]
  g_is_name : mg "is_name" = some (.ref a.is_name)
  x_BadName : ExcA P w K mg a.BadName a.LoopError "BadName" ["name"]
  f_check_name : FunX K "check_name" "check_name" (top 13) a.check_name ["name"]
  g_check_name : mg "check_name" = some (.ref a.check_name)
  f_Chart_init : FunX K "__init__" "Chart.__init__" (inClass (top 15) 1) a.Chart_init ["self", "outcomes", "start"]
  mk_Chart : Mk K a.Chart a.Chart_init
  cw_Chart : ClsW (tab K a) a.Chart
  g_Chart : mg "Chart" = some (.ref a.Chart)
  k_Chart_MOST : ∃ t, Con K a.Chart "MOST" (.int 16) (.int 16 t)
  x_TooLarge : ExcA P w K mg a.TooLarge a.LoopError "TooLarge" ["most"]
  f_Chart_setitem : FunX K "__setitem__" "Chart.__setitem__" (inClass (top 15) 8) a.Chart_setitem ["self", "at", "worth"]
  s_Chart_setitem : PySem.W.findIn K (.ref a.Chart) "__setitem__" = some (some (.ref a.Chart_setitem)) ∧ PySem.W.isFn K (.ref a.Chart_setitem) = true ∧ PySem.W.fnIn K a.Chart_setitem = true ∧ PySem.W.noSeq K a.Chart = true
  f_part : FunX K "_law_partial" "_law_partial" (top 23) a.part ["_law_rows_here", "_law_nodes", "_law_actions"]
  g_part : mg "_law_partial" = some (.ref a.part)
  f_order : FunX K "_law_order" "_law_order" (top 24) a.order ["_law_rows_here"]
  g_order : mg "_law_order" = some (.ref a.order)
  x_NoNode : ExcA P w K mg a.NoNode a.LoopError "NoNode" ["node"]
  f_Chart_start_set : FunX K "start" "Chart.start" (inClass (top 15) 3) a.Chart_start_set ["self", "node"]
  w_Chart_start_set : SetOf K a.Chart "start" a.Chart_start_prop a.Chart_start_set
  f_Chart_start_at : FunX K "start_at" "Chart.start_at" (inClass (top 15) 4) a.Chart_start_at ["self", "node"]
  m_Chart_start_at : Meth K a.Chart "start_at" a.Chart_start_at
  f_Chart_edges : FunX K "edges" "Chart.edges" (inClass (top 15) 12) a.Chart_edges ["self"]
  m_Chart_edges : Meth K a.Chart "edges" a.Chart_edges
  f_edge_table : FunX K "edge_table" "edge_table" (top 17) a.edge_table ["chart"]
  g_edge_table : mg "edge_table" = some (.ref a.edge_table)
  n_isinstance : mg "isinstance" = none
  n_str : mg "str" = none
  f_due : FunX K "_law_due" "_law_due" (top 25) a.due ["_law_rows_here", "_law_nodes", "_law_actions"]
  g_due : mg "_law_due" = some (.ref a.due)
  f_Chart_len : FunX K "__len__" "Chart.__len__" (inClass (top 15) 10) a.Chart_len ["self"]
  s_Chart_len : PySem.W.findIn K (.ref a.Chart) "__len__" = some (some (.ref a.Chart_len)) ∧ PySem.W.isFn K (.ref a.Chart_len) = true ∧ PySem.W.fnIn K a.Chart_len = true
  n_iter : mg "iter" = none
  it_Chart : IterC K a.Chart a.Chart_iter "_nodes"
  f_law : FunX K "law" "law" (top 26) a.law ["_law_script"]
variable {P : Program} {w : World} {K : PySem.W.Frag} {mg : Str → Option Value} {base : Heap} {a : Ad}
theorem e_draw (h : Fx P w K mg a) : FnE P w K mg base (tab K a) 1 a.draw 2 f_draw := by
  obtain ⟨fd, F, hb⟩ := h.f_draw
  refine fnE_of (N := ["_law_pool", "_law_limit", "_law_cell", "_law_digit"]) (ps := ["_law_pool", "_law_limit"]) F ⟨rfl, rfl, rfl, by decide +kernel, rfl, by decide +kernel, by decide +kernel⟩ rfl hb fun cdv A outer s H E hr => ?_
  have tk : Takes (cxOf (L2.CX P w) P w K mg base ["_law_pool", "_law_limit", "_law_cell", "_law_digit"] "_law_draw" (defScope (top 19)) a.draw cdv A outer s H E) (fun cls d _ H => E cls d H) := takes_of rfl rfl rfl rfl
  have hN : (["_law_pool", "_law_limit", "_law_cell", "_law_digit"] : List Str).Nodup := by decide +kernel
  exact (lss_cons (ls_if (lt_cmp (o_eq rfl hr.u64) (le_ix (o_sub_own rfl hr.u1 tk .nil) (le_var 0) le_int) le_int) (lss_cons (ls_set 2 hN le_int) (lss_cons (ls_if (lt_cmp o_lt (le_ix (o_sub_own rfl hr.u1 tk .nil) (le_var 0) le_int) (le_callB (c_len rfl) h.n_len PyProof.Rows.Boot.«len» (la_cons (le_ix (o_sub_own rfl hr.u1 tk .nil) (le_var 0) le_int) la_nil))) (lss_cons (ls_set 2 hN (le_callB c_abs h.n_abs PyProof.Rows.Boot.«abs» (la_cons (le_ix (o_sub_own rfl hr.u1 tk .nil) (le_ix (o_sub_own rfl hr.u1 tk .nil) (le_var 0) le_int) (le_ix (o_sub_own rfl hr.u1 tk .nil) (le_var 0) le_int)) la_nil))) (lss_one (ls_asg (le_op (o_add rfl) (le_ix (o_sub_own rfl hr.u1 tk .nil) (le_var 0) le_int) le_int) (lg_sub (o_set hr.u1 tk .nil) (le_var 0) le_int)))) lss_nil) (lss_cons (ls_if (lt_cmp o_ge (le_var 2) (le_op (o_pow) le_int le_int)) (lss_one (ls_asg (le_var 2) (lg_sub (o_set hr.u1 tk .nil) (le_var 0) le_int))) lss_nil) (lss_one (ls_asg (le_op (o_mod) (le_callTy c_int h.n_int PyProof.Rows.Boot.«int» (la_cons (le_op (o_add rfl) (le_op (o_add rfl) (le_op (o_mul) (le_ix (o_sub_own rfl hr.u1 tk .nil) (le_var 0) le_int) le_int) (le_var 2)) le_int) la_nil)) le_int) (lg_sub (o_set hr.u1 tk .nil) (le_var 0) le_int)))))) lss_nil) (lss_cons (ls_if (lt_cmp o_gt (le_ix (o_sub_own rfl hr.u1 tk .nil) (le_var 0) le_int) le_int) (lss_cons (ls_set 3 hN (le_op (o_mod) (le_callTy c_int h.n_int PyProof.Rows.Boot.«int» (la_cons (le_ix (o_sub_own rfl hr.u1 tk .nil) (le_var 0) le_int) la_nil)) (le_var 1))) (lss_cons (ls_asg (le_op (o_fdiv) (le_ix (o_sub_own rfl hr.u1 tk .nil) (le_var 0) le_int) (le_var 1)) (lg_sub (o_set hr.u1 tk .nil) (le_var 0) le_int)) (lss_one (ls_ret (le_var 3))))) lss_nil) (lss_one (ls_ret (le_op (o_mod) (le_callTy c_int h.n_int PyProof.Rows.Boot.«int» (la_cons (le_op (o_fdiv) (le_ix (o_sub_own rfl hr.u1 tk .nil) (le_var 0) le_int) le_int) la_nil)) (le_var 1))))))
theorem e_rows (h : Fx P w K mg a) : FnE P w K mg base (tab K a) 2 a.rows 3 f_rows := by
  obtain ⟨fd, F, hb⟩ := h.f_rows
  refine fnE_of (N := ["_law_pool", "_law_most", "_law_edges", "_law_wide", "_law_count", "_law_many", "_law_rows_here", "_law_k", "_law_outcome"]) (ps := ["_law_pool", "_law_most", "_law_edges"]) F ⟨rfl, rfl, rfl, by decide +kernel, rfl, by decide +kernel, by decide +kernel⟩ rfl hb fun cdv A outer s H E hr => ?_
  have tk : Takes (cxOf (L2.CX P w) P w K mg base ["_law_pool", "_law_most", "_law_edges", "_law_wide", "_law_count", "_law_many", "_law_rows_here", "_law_k", "_law_outcome"] "_law_rows" (defScope (top 22)) a.rows cdv A outer s H E) (fun cls d _ H => E cls d H) := takes_of rfl rfl rfl rfl
  have hN : (["_law_pool", "_law_most", "_law_edges", "_law_wide", "_law_count", "_law_many", "_law_rows_here", "_law_k", "_law_outcome"] : List Str).Nodup := by decide +kernel
  exact (lss_cons (ls_set 3 hN (le_op (o_add rfl) le_int (le_op (o_mod) (le_callTy c_int h.n_int PyProof.Rows.Boot.«int» (la_cons (le_op (o_add rfl) (le_callG (call_fn (e_draw h) (hr.mono (by decide)) tk) (e_draw (base := base) h).kp h.g_draw (la_cons (le_var 0) (la_cons le_int la_nil))) le_int) la_nil)) le_int))) (lss_cons (ls_set 4 hN (le_op (o_add rfl) le_int (le_callG (call_fn (e_draw h) (hr.mono (by decide)) tk) (e_draw (base := base) h).kp h.g_draw (la_cons (le_var 0) (la_cons (le_callB (c_min rfl) h.n_min PyProof.Rows.Boot.«min» (la_cons (le_var 1) (la_cons (le_op (o_fdiv) (le_var 2) (le_var 3)) la_nil))) la_nil))))) (lss_cons (ls_set 5 hN (le_op (o_add rfl) le_int (le_callG (call_fn (e_draw h) (hr.mono (by decide)) tk) (e_draw (base := base) h).kp h.g_draw (la_cons (le_var 0) (la_cons le_int la_nil))))) (lss_cons (ls_set 6 hN (le_lst la_nil)) (lss_cons (ls_for (passes_of rfl) rfl (li_range1 h.n_range (la_cons (le_var 4) la_nil)) (lg_name (i := 7) hN) (lss_one (ls_expr (le_bm rfl PySem.F.plainAttrs_list PySem.F.slot_list_append PySem.F.type_list_append m_append (le_var 6) (la_cons (le_lc rfl hN (li_range1 h.n_range (la_cons (le_var 3) la_nil)) (own := [("_law_outcome", 8)]) (blkOk_by (N := ["_law_pool", "_law_most", "_law_edges", "_law_wide", "_law_count", "_law_many", "_law_rows_here", "_law_k", "_law_outcome"]) (sc := defScope (top 22)) (by decide +kernel)) (fun _ _ _ _ _ => (lc_name 8 hN)) (fun _ _ _ _ _ => lts_nil) (fun _ _ _ _ _ => (le_tup (la_cons (le_callG (call_fn (e_draw h) (hr.mono (by decide)) takes0) (e_draw (base := base) h).kp h.g_draw (la_cons (le_var 0) (la_cons (le_var 5) la_nil))) (la_cons (le_op (o_sub) (le_callG (call_fn (e_draw h) (hr.mono (by decide)) takes0) (e_draw (base := base) h).kp h.g_draw (la_cons (le_var 0) (la_cons (le_op (o_add rfl) (le_var 4) le_int) la_nil))) le_int) la_nil))))) la_nil))))) (lss_one (ls_ret (le_var 6))))))))
theorem e_word (h : Fx P w K mg a) : FnE P w K mg base (tab K a) 1 a.word 1 f_word := by
  obtain ⟨fd, F, hb⟩ := h.f_word
  refine fnE_of (N := ["_law_number", "_law_letters", "_law_word_here"]) (ps := ["_law_number"]) F ⟨rfl, rfl, rfl, by decide +kernel, rfl, by decide +kernel, by decide +kernel⟩ rfl hb fun cdv A outer s H E hr => ?_
  have tk : Takes (cxOf (L2.CX P w) P w K mg base ["_law_number", "_law_letters", "_law_word_here"] "_law_word" (defScope (top 20)) a.word cdv A outer s H E) (fun cls d _ H => E cls d H) := takes_of rfl rfl rfl rfl
  have hN : (["_law_number", "_law_letters", "_law_word_here"] : List Str).Nodup := by decide +kernel
  exact (lss_cons (ls_set 1 hN le_str) (lss_cons (ls_set 2 hN (le_ix (o_sub_own rfl hr.u1 tk .nil) (le_var 1) (le_op (o_mod) (le_callTy c_int h.n_int PyProof.Rows.Boot.«int» (la_cons (le_var 0) la_nil)) le_int))) (lss_cons (ls_set 0 hN (le_op (o_fdiv) (le_var 0) le_int)) (lss_cons (ls_while (passes_of rfl) (lt_cmp o_gt (le_var 0) le_int) (lss_cons (ls_set 2 hN (le_op (o_add rfl) (le_var 2) (le_ix (o_sub_own rfl hr.u1 tk .nil) (le_var 1) (le_op (o_mod) (le_callTy c_int h.n_int PyProof.Rows.Boot.«int» (la_cons (le_var 0) la_nil)) le_int)))) (lss_one (ls_set 0 hN (le_op (o_fdiv) (le_var 0) le_int))))) (lss_one (ls_ret (le_var 2)))))))
theorem e_words (h : Fx P w K mg a) : FnE P w K mg base (tab K a) 2 a.words 2 f_words := by
  obtain ⟨fd, F, hb⟩ := h.f_words
  refine fnE_of (N := ["_law_pool", "_law_count", "_law_most", "_law_first", "_law_gap", "_law_size", "_law_k"]) (ps := ["_law_pool", "_law_count"]) F ⟨rfl, rfl, rfl, by decide +kernel, rfl, by decide +kernel, by decide +kernel⟩ rfl hb fun cdv A outer s H E hr => ?_
  have tk : Takes (cxOf (L2.CX P w) P w K mg base ["_law_pool", "_law_count", "_law_most", "_law_first", "_law_gap", "_law_size", "_law_k"] "_law_words" (defScope (top 21)) a.words cdv A outer s H E) (fun cls d _ H => E cls d H) := takes_of rfl rfl rfl rfl
  have hN : (["_law_pool", "_law_count", "_law_most", "_law_first", "_law_gap", "_law_size", "_law_k"] : List Str).Nodup := by decide +kernel
  exact (lss_cons (ls_set 2 hN (le_op (o_mul) le_int (le_op (o_pow) le_int le_int))) (lss_cons (ls_set 3 hN (le_callG (call_fn (e_draw h) (hr.mono (by decide)) tk) (e_draw (base := base) h).kp h.g_draw (la_cons (le_var 0) (la_cons (le_var 2) la_nil)))) (lss_cons (ls_set 4 hN (le_op (o_add rfl) le_int (le_callG (call_fn (e_draw h) (hr.mono (by decide)) tk) (e_draw (base := base) h).kp h.g_draw (la_cons (le_var 0) (la_cons (le_op (o_pow) le_int le_int) la_nil))))) (lss_cons (ls_set 5 hN (le_callG (call_fn (e_draw h) (hr.mono (by decide)) tk) (e_draw (base := base) h).kp h.g_draw (la_cons (le_var 0) (la_cons le_int la_nil)))) (lss_one (ls_ret (le_lc rfl hN (li_range1 h.n_range (la_cons (le_var 1) la_nil)) (own := [("_law_k", 6)]) (blkOk_by (N := ["_law_pool", "_law_count", "_law_most", "_law_first", "_law_gap", "_law_size", "_law_k"]) (sc := defScope (top 21)) (by decide +kernel)) (fun _ _ _ _ _ => (lc_name 6 hN)) (fun _ _ _ _ _ => lts_nil) (fun _ _ _ _ _ => (le_bm rfl PySem.F.plainAttrs_str PySem.F.slot_str_ljust PySem.F.type_str_ljust m_ljust2 (le_callG (call_fn (e_word h) (hr.mono (by decide)) takes0) (e_word (base := base) h).kp h.g_word (la_cons (le_op (o_mod) (le_callTy c_int h.n_int PyProof.Rows.Boot.«int» (la_cons (le_op (o_add rfl) (le_var 3) (le_op (o_mul) (le_var 4) (le_var 6))) la_nil)) (le_var 2)) la_nil)) (la_cons (le_var 5) (la_cons le_str la_nil)))))))))))
theorem e_is_name (h : Fx P w K mg a) : FnE P w K mg base (tab K a) 1 a.is_name 1 f_is_name := by
  obtain ⟨fd, F, hb⟩ := h.f_is_name
  refine fnE_of (N := ["name", "sign"]) (ps := ["name"]) F ⟨rfl, rfl, rfl, by decide +kernel, rfl, by decide +kernel, by decide +kernel⟩ rfl hb fun cdv A outer s H E hr => ?_
  have tk : Takes (cxOf (L2.CX P w) P w K mg base ["name", "sign"] "is_name" (defScope (top 12)) a.is_name cdv A outer s H E) (fun cls d _ H => E cls d H) := takes_of rfl rfl rfl rfl
  have hN : (["name", "sign"] : List Str).Nodup := by decide +kernel
  exact (lss_one (ls_ret (le_and (le_chain o_le o_le le_int (le_callB (c_len rfl) h.n_len PyProof.Rows.Boot.«len» (la_cons (le_var 0) la_nil)) le_int) (le_and (le_cmp (o_in rfl hr.u65 tk .nil) (le_ix (o_sub_own rfl hr.u1 tk .nil) (le_var 0) le_int) (le_globS h.g_FIRST)) (le_one (le_callB (c_all rfl rfl) h.n_all PyProof.Rows.Boot.«all» (la_cons (le_lc rfl hN (li_txt (le_var 0)) (own := [("sign", 1)]) (blkOk_by (N := ["name", "sign"]) (sc := defScope (top 12)) (by decide +kernel)) (fun _ _ _ _ _ => (lc_name 1 hN)) (fun _ _ _ _ _ => lts_nil) (fun _ _ _ _ _ => (le_cmp (o_in rfl hr.u65 takes0 .nil) (le_var 1) (le_globS h.g_OTHERS)))) la_nil)))))))
theorem e_check_name (h : Fx P w K mg a) : FnE P w K mg base (tab K a) 2 a.check_name 1 f_check_name := by
  obtain ⟨fd, F, hb⟩ := h.f_check_name
  refine fnE_of (N := ["name"]) (ps := ["name"]) F ⟨rfl, rfl, rfl, by decide +kernel, rfl, by decide +kernel, by decide +kernel⟩ rfl hb fun cdv A outer s H E hr => ?_
  have tk : Takes (cxOf (L2.CX P w) P w K mg base ["name"] "check_name" (defScope (top 13)) a.check_name cdv A outer s H E) (fun cls d _ H => E cls d H) := takes_of rfl rfl rfl rfl
  have hN : (["name"] : List Str).Nodup := by decide +kernel
  exact (lss_one (ls_if (lt_not (lt_tru rfl (le_callG (call_fn (e_is_name h) (hr.mono (by decide)) tk) (e_is_name (base := base) h).kp h.g_is_name (la_cons (le_var 0) la_nil)))) (lss_one (ls_raise (C := a.BadName) rfl (Classical.choose_spec h.x_BadName.t).1 (Classical.choose_spec h.x_BadName.t).2 rfl rfl (by decide) (hr.mono (by decide) : Room 1 _) tk (la_cons (le_var 0) la_nil))) lss_nil))
theorem e_Chart_init (h : Fx P w K mg a) : FnE P w K mg base (tab K a) 3 a.Chart_init 3 f_Chart_init := by
  obtain ⟨fd, F, hb⟩ := h.f_Chart_init
  refine fnE_of (N := ["self", "outcomes", "start"]) (ps := ["self", "outcomes", "start"]) F ⟨rfl, rfl, rfl, by decide +kernel, rfl, by decide +kernel, by decide +kernel⟩ rfl hb fun cdv A outer s H E hr => ?_
  have tk : Takes (cxOf (L2.CX P w) P w K mg base ["self", "outcomes", "start"] "Chart.__init__" (defScope (inClass (top 15) 1)) a.Chart_init cdv A outer s H E) (fun cls d _ H => E cls d H) := takes_of rfl rfl rfl rfl
  have hN : (["self", "outcomes", "start"] : List Str).Nodup := by decide +kernel
  exact (lss_cons (ls_if (lt_not (lt_chain o_le o_le le_int (le_var 1) (le_globI h.g_MOST_OUTCOMES))) (lss_one (ls_raise (C := a.BadOutcome) rfl (Classical.choose_spec h.x_BadOutcome.t).1 (Classical.choose_spec h.x_BadOutcome.t).2 rfl rfl (by decide) (hr.mono (by decide) : Room 1 _) tk (la_cons (le_var 1) la_nil))) lss_nil) (lss_cons (ls_expr (le_callG (call_fn (e_check_name h) (hr.mono (by decide)) tk) (e_check_name (base := base) h).kp h.g_check_name (la_cons (le_var 2) la_nil))) (lss_cons (ls_fld 0 rfl rfl (le_var 0) (le_var 1)) (lss_cons (ls_fld 1 rfl rfl (le_var 0) (le_var 2)) (lss_cons (ls_fld 2 rfl rfl (le_var 0) (le_lst (la_cons (le_var 2) la_nil))) (lss_one (ls_fld 3 rfl rfl (le_var 0) le_dict0T)))))))
theorem e_Chart_setitem (h : Fx P w K mg a) : FnE P w K mg base (tab K a) 3 a.Chart_setitem 3 f_Chart_setitem := by
  obtain ⟨fd, F, hb⟩ := h.f_Chart_setitem
  refine fnE_of (N := ["self", "at", "worth", "node", "outcome", "name", "target", "nodes"]) (ps := ["self", "at", "worth"]) F ⟨rfl, rfl, rfl, by decide +kernel, rfl, by decide +kernel, by decide +kernel⟩ rfl hb fun cdv A outer s H E hr => ?_
  have tk : Takes (cxOf (L2.CX P w) P w K mg base ["self", "at", "worth", "node", "outcome", "name", "target", "nodes"] "Chart.__setitem__" (defScope (inClass (top 15) 8)) a.Chart_setitem cdv A outer s H E) (fun cls d _ H => E cls d H) := takes_of rfl rfl rfl rfl
  have hN : (["self", "at", "worth", "node", "outcome", "name", "target", "nodes"] : List Str).Nodup := by decide +kernel
  exact (lss_cons (ls_asg (le_var 1) (lg_tup rfl rfl (lgs_cons (lg_name (i := 3) hN) (lgs_cons (lg_name (i := 4) hN) lgs_nil)))) (lss_cons (ls_asg (le_var 2) (lg_tup rfl rfl (lgs_cons (lg_name (i := 5) hN) (lgs_cons (lg_name (i := 6) hN) lgs_nil)))) (lss_cons (ls_expr (le_callG (call_fn (e_check_name h) (hr.mono (by decide)) tk) (e_check_name (base := base) h).kp h.g_check_name (la_cons (le_var 3) la_nil))) (lss_cons (ls_if (lt_not (lt_chain o_le o_lt le_int (le_var 4) (le_fld 0 rfl rfl (le_var 0)))) (lss_one (ls_raise (C := a.BadOutcome) rfl (Classical.choose_spec h.x_BadOutcome.t).1 (Classical.choose_spec h.x_BadOutcome.t).2 rfl rfl (by decide) (hr.mono (by decide) : Room 1 _) tk (la_cons (le_var 4) la_nil))) lss_nil) (lss_cons (ls_expr (le_callG (call_fn (e_check_name h) (hr.mono (by decide)) tk) (e_check_name (base := base) h).kp h.g_check_name (la_cons (le_var 5) la_nil))) (lss_cons (ls_set 7 hN (le_callTy (c_list rfl) h.n_list PyProof.Rows.Boot.«list» (la_cons (le_fld 2 rfl rfl (le_var 0)) la_nil))) (lss_cons (ls_if (lt_cmp (o_notin rfl hr.u65 tk .nil) (le_var 3) (le_var 7)) (lss_one (ls_expr (le_bm rfl PySem.F.plainAttrs_list PySem.F.slot_list_append PySem.F.type_list_append m_append (le_var 7) (la_cons (le_var 3) la_nil)))) lss_nil) (lss_cons (ls_if (lt_cmp o_isnot (le_var 6) le_non) (lss_cons (ls_expr (le_callG (call_fn (e_check_name h) (hr.mono (by decide)) tk) (e_check_name (base := base) h).kp h.g_check_name (la_cons (le_var 6) la_nil))) (lss_one (ls_if (lt_cmp (o_notin rfl hr.u65 tk .nil) (le_var 6) (le_var 7)) (lss_one (ls_expr (le_bm rfl PySem.F.plainAttrs_list PySem.F.slot_list_append PySem.F.type_list_append m_append (le_var 7) (la_cons (le_var 6) la_nil)))) lss_nil))) lss_nil) (lss_cons (ls_if (lt_cmp o_gt (le_callB (c_len rfl) h.n_len PyProof.Rows.Boot.«len» (la_cons (le_var 7) la_nil)) (le_con rfl (show ("MOST" : Str) ∉ fnsL from by decide +kernel) (show ConOk _ _ _ _ from (.consI (at0 rfl h.k_Chart_MOST) .nil)) (le_var 0))) (lss_one (ls_raise (C := a.TooLarge) rfl (Classical.choose_spec h.x_TooLarge.t).1 (Classical.choose_spec h.x_TooLarge.t).2 rfl rfl (by decide) (hr.mono (by decide) : Room 1 _) tk (la_cons (le_con rfl (show ("MOST" : Str) ∉ fnsL from by decide +kernel) (show ConOk _ _ _ _ from (.consI (at0 rfl h.k_Chart_MOST) .nil)) (le_var 0)) la_nil))) lss_nil) (lss_cons (ls_fld 2 rfl rfl (le_var 0) (le_var 7)) (lss_one (ls_asg (le_tup (la_cons (le_var 5) (la_cons (le_var 6) la_nil))) (lg_sub (o_set hr.u1 tk .nil) (le_fld 3 rfl rfl (le_var 0)) (le_tup (la_cons (le_var 3) (la_cons (le_var 4) la_nil))))))))))))))))
theorem e_part (h : Fx P w K mg a) : FnE P w K mg base (tab K a) 5 a.part 3 f_part := by
  obtain ⟨fd, F, hb⟩ := h.f_part
  refine fnE_of (N := ["_law_rows_here", "_law_nodes", "_law_actions", "_law_chart", "_law_k", "_law_outcome", "_law_edge"]) (ps := ["_law_rows_here", "_law_nodes", "_law_actions"]) F ⟨rfl, rfl, rfl, by decide +kernel, rfl, by decide +kernel, by decide +kernel⟩ rfl hb fun cdv A outer s H E hr => ?_
  have tk : Takes (cxOf (L2.CX P w) P w K mg base ["_law_rows_here", "_law_nodes", "_law_actions", "_law_chart", "_law_k", "_law_outcome", "_law_edge"] "_law_partial" (defScope (top 23)) a.part cdv A outer s H E) (fun cls d _ H => E cls d H) := takes_of rfl rfl rfl rfl
  have hN : (["_law_rows_here", "_law_nodes", "_law_actions", "_law_chart", "_law_k", "_law_outcome", "_law_edge"] : List Str).Nodup := by decide +kernel
  exact (lss_cons (ls_set 3 hN (le_callG (call_mk h.mk_Chart rfl rfl h.cw_Chart (e_Chart_init h) (hr.mono (by decide)) tk) h.mk_Chart.kp h.g_Chart (la_cons (le_callB (c_len rfl) h.n_len PyProof.Rows.Boot.«len» (la_cons (le_ix (o_sub_own rfl hr.u1 tk .nil) (le_var 0) le_int) la_nil)) (la_cons (le_ix (o_sub_own rfl hr.u1 tk .nil) (le_var 1) le_int) la_nil)))) (lss_cons (ls_for (passes_of rfl) rfl (li_range1 h.n_range (la_cons (le_callB (c_len rfl) h.n_len PyProof.Rows.Boot.«len» (la_cons (le_var 0) la_nil)) la_nil)) (lg_name (i := 4) hN) (lss_one (ls_for (passes_of rfl) rfl (li_range1 h.n_range (la_cons (le_callB (c_len rfl) h.n_len PyProof.Rows.Boot.«len» (la_cons (le_ix (o_sub_own rfl hr.u1 tk .nil) (le_var 0) (le_var 4)) la_nil)) la_nil)) (lg_name (i := 5) hN) (lss_cons (ls_set 6 hN (le_ix (o_sub_own rfl hr.u1 tk .nil) (le_ix (o_sub_own rfl hr.u1 tk .nil) (le_var 0) (le_var 4)) (le_var 5))) (lss_one (ls_if (lt_cmp o_isnot (le_var 6) le_non) (lss_one (ls_asg (le_tup (la_cons (le_ix (o_sub_own rfl hr.u1 tk .nil) (le_var 2) (le_ix (o_sub_own rfl hr.u1 tk .nil) (le_var 6) le_int)) (la_cons (le_if (lt_cmp o_ge (le_ix (o_sub_own rfl hr.u1 tk .nil) (le_var 6) le_int) le_int) (le_ix (o_sub_own rfl hr.u1 tk .nil) (le_var 1) (le_ix (o_sub_own rfl hr.u1 tk .nil) (le_var 6) le_int)) le_non) la_nil))) (lg_sub (o_set hr.u1 tk (show DispS _ _ _ _ from (.cons (e_Chart_setitem h) (hr.mono (by decide)) (at0 rfl h.s_Chart_setitem) .nil))) (le_var 3) (le_tup (la_cons (le_ix (o_sub_own rfl hr.u1 tk .nil) (le_var 1) (le_var 4)) (la_cons (le_var 5) la_nil)))))) lss_nil)))))) (lss_one (ls_ret (le_var 3)))))
theorem e_order (h : Fx P w K mg a) : FnE P w K mg base (tab K a) 1 a.order 1 f_order := by
  obtain ⟨fd, F, hb⟩ := h.f_order
  refine fnE_of (N := ["_law_rows_here", "_law_order_here", "_law_k", "_law_edge"]) (ps := ["_law_rows_here"]) F ⟨rfl, rfl, rfl, by decide +kernel, rfl, by decide +kernel, by decide +kernel⟩ rfl hb fun cdv A outer s H E hr => ?_
  have tk : Takes (cxOf (L2.CX P w) P w K mg base ["_law_rows_here", "_law_order_here", "_law_k", "_law_edge"] "_law_order" (defScope (top 24)) a.order cdv A outer s H E) (fun cls d _ H => E cls d H) := takes_of rfl rfl rfl rfl
  have hN : (["_law_rows_here", "_law_order_here", "_law_k", "_law_edge"] : List Str).Nodup := by decide +kernel
  exact (lss_cons (ls_set 1 hN (le_lst (la_cons le_int la_nil))) (lss_cons (ls_for (passes_of rfl) rfl (li_range1 h.n_range (la_cons (le_callB (c_len rfl) h.n_len PyProof.Rows.Boot.«len» (la_cons (le_var 0) la_nil)) la_nil)) (lg_name (i := 2) hN) (lss_one (ls_for (passes_of rfl) rfl (li_seq rfl (le_ix (o_sub_own rfl hr.u1 tk .nil) (le_var 0) (le_var 2))) (lg_name (i := 3) hN) (lss_cons (ls_if (PW.pt (lw_and (lt_cmp o_isnot (le_var 3) le_non) (lw_and1 (lt_cmp (o_notin rfl hr.u65 tk .nil) (le_var 2) (le_var 1))))) (lss_one (ls_expr (le_bm rfl PySem.F.plainAttrs_list PySem.F.slot_list_append PySem.F.type_list_append m_append (le_var 1) (la_cons (le_var 2) la_nil)))) lss_nil) (lss_one (ls_if (PW.pt (lw_and (lt_cmp o_isnot (le_var 3) le_non) (lw_and (lt_cmp o_ge (le_ix (o_sub_own rfl hr.u1 tk .nil) (le_var 3) le_int) le_int) (lw_and1 (lt_cmp (o_notin rfl hr.u65 tk .nil) (le_ix (o_sub_own rfl hr.u1 tk .nil) (le_var 3) le_int) (le_var 1)))))) (lss_one (ls_expr (le_bm rfl PySem.F.plainAttrs_list PySem.F.slot_list_append PySem.F.type_list_append m_append (le_var 1) (la_cons (le_ix (o_sub_own rfl hr.u1 tk .nil) (le_var 3) le_int) la_nil)))) lss_nil)))))) (lss_one (ls_ret (le_var 1)))))
theorem e_Chart_start_set (h : Fx P w K mg a) : FnE P w K mg base (tab K a) 2 a.Chart_start_set 2 f_Chart_start_set := by
  obtain ⟨fd, F, hb⟩ := h.f_Chart_start_set
  refine fnE_of (N := ["self", "node"]) (ps := ["self", "node"]) F ⟨rfl, rfl, rfl, by decide +kernel, rfl, by decide +kernel, by decide +kernel⟩ rfl hb fun cdv A outer s H E hr => ?_
  have tk : Takes (cxOf (L2.CX P w) P w K mg base ["self", "node"] "Chart.start" (defScope (inClass (top 15) 3)) a.Chart_start_set cdv A outer s H E) (fun cls d _ H => E cls d H) := takes_of rfl rfl rfl rfl
  have hN : (["self", "node"] : List Str).Nodup := by decide +kernel
  exact (lss_cons (ls_if (lt_cmp (o_notin rfl hr.u65 tk .nil) (le_var 1) (le_fld 2 rfl rfl (le_var 0))) (lss_one (ls_raise (C := a.NoNode) rfl (Classical.choose_spec h.x_NoNode.t).1 (Classical.choose_spec h.x_NoNode.t).2 rfl rfl (by decide) (hr.mono (by decide) : Room 1 _) tk (la_cons (le_var 1) la_nil))) lss_nil) (lss_one (ls_fld 1 rfl rfl (le_var 0) (le_var 1))))
theorem e_Chart_start_at (h : Fx P w K mg a) : FnE P w K mg base (tab K a) 5 a.Chart_start_at 2 f_Chart_start_at := by
  obtain ⟨fd, F, hb⟩ := h.f_Chart_start_at
  refine fnE_of (N := ["self", "node"]) (ps := ["self", "node"]) F ⟨rfl, rfl, rfl, by decide +kernel, rfl, by decide +kernel, by decide +kernel⟩ rfl hb fun cdv A outer s H E hr => ?_
  have tk : Takes (cxOf (L2.CX P w) P w K mg base ["self", "node"] "Chart.start_at" (defScope (inClass (top 15) 4)) a.Chart_start_at cdv A outer s H E) (fun cls d _ H => E cls d H) := takes_of rfl rfl rfl rfl
  have hN : (["self", "node"] : List Str).Nodup := by decide +kernel
  exact (lss_one (ls_prop rfl tk (show DispW _ _ _ _ from (.cons (e_Chart_start_set h) (hr.mono (by decide)) (at0 rfl h.w_Chart_start_set) .nil)) (le_var 0) (le_var 1)))
theorem e_Chart_edges (h : Fx P w K mg a) : FnE P w K mg base (tab K a) 1 a.Chart_edges 1 f_Chart_edges := by
  obtain ⟨fd, F, hb⟩ := h.f_Chart_edges
  refine fnE_of (N := ["self", "node", "outcome"]) (ps := ["self"]) F ⟨rfl, rfl, rfl, by decide +kernel, rfl, by decide +kernel, by decide +kernel⟩ rfl hb fun cdv A outer s H E hr => ?_
  have tk : Takes (cxOf (L2.CX P w) P w K mg base ["self", "node", "outcome"] "Chart.edges" (defScope (inClass (top 15) 12)) a.Chart_edges cdv A outer s H E) (fun cls d _ H => E cls d H) := takes_of rfl rfl rfl rfl
  have hN : (["self", "node", "outcome"] : List Str).Nodup := by decide +kernel
  exact (lss_one (ls_ret (le_lc2 [2] rfl hN (li_seq rfl (le_fld 2 rfl rfl (le_var 0))) (own := [("node", 1), ("outcome", 2)]) (blkOk_by (N := ["self", "node", "outcome"]) (sc := defScope (inClass (top 15) 12)) (by decide +kernel)) (by decide) (fun _ _ _ _ _ => (lc_name 1 hN)) (fun _ _ _ _ _ => lts_nil) (fun _ _ _ _ _ => (li_range1 h.n_range (la_cons (le_fld 0 rfl rfl (le_var 0)) la_nil))) (fun _ _ _ _ _ => (lc_name 2 hN)) (fun _ _ _ _ _ => (lts_one (lt_cmp (o_in rfl hr.u65 takes0 .nil) (le_tup (la_cons (le_var 1) (la_cons (le_var 2) la_nil))) (le_fld 3 rfl rfl (le_var 0))))) (fun _ _ _ _ _ => (le_tup (la_cons (le_var 1) (la_cons (le_var 2) (la_star rfl (le_ix (o_sub_own rfl hr.u1 takes0 .nil) (le_fld 3 rfl rfl (le_var 0)) (le_tup (la_cons (le_var 1) (la_cons (le_var 2) la_nil)))) la_nil))))))))
theorem e_edge_table (h : Fx P w K mg a) : FnE P w K mg base (tab K a) 2 a.edge_table 1 f_edge_table := by
  obtain ⟨fd, F, hb⟩ := h.f_edge_table
  refine fnE_of (N := ["chart", "lines", "node", "outcome", "name", "target"]) (ps := ["chart"]) F ⟨rfl, rfl, rfl, by decide +kernel, rfl, by decide +kernel, by decide +kernel⟩ rfl hb fun cdv A outer s H E hr => ?_
  have tk : Takes (cxOf (L2.CX P w) P w K mg base ["chart", "lines", "node", "outcome", "name", "target"] "edge_table" (defScope (top 17)) a.edge_table cdv A outer s H E) (fun cls d _ H => E cls d H) := takes_of rfl rfl rfl rfl
  have hN : (["chart", "lines", "node", "outcome", "name", "target"] : List Str).Nodup := by decide +kernel
  exact (lss_cons (ls_set 1 hN (le_lst la_nil)) (lss_cons (ls_for (passes_of rfl) rfl (li_seq rfl (le_meth0 rfl (show ("edges" : Str) ∉ fnsL from by decide +kernel) (show DispOk _ _ _ _ _ from (.cons (at0 rfl ⟨h.m_Chart_edges, call_fn (e_Chart_edges h) (hr.mono (by decide)) tk⟩) .nil)) (le_var 0))) (lg_tup rfl rfl (lgs_cons (lg_name (i := 2) hN) (lgs_cons (lg_name (i := 3) hN) (lgs_cons (lg_name (i := 4) hN) (lgs_cons (lg_name (i := 5) hN) lgs_nil))))) (lss_one (ls_expr (le_bm rfl PySem.F.plainAttrs_list PySem.F.slot_list_append PySem.F.type_list_append m_append (le_var 1) (la_cons (le_join (.cons (le_fmtS8 (le_var 2)) (.cons le_str (.cons (le_fmtI2 (le_var 3)) (.cons le_str (.cons (le_fmtS8 (le_var 4)) (.cons le_str (.cons (le_fmt (le_orT rfl (le_var 5) (le_one le_str))) .nil)))))))) la_nil))))) (lss_one (ls_ret (le_var 1)))))
theorem e_due (h : Fx P w K mg a) : FnE P w K mg base (tab K a) 2 a.due 3 f_due := by
  obtain ⟨fd, F, hb⟩ := h.f_due
  refine fnE_of (N := ["_law_rows_here", "_law_nodes", "_law_actions", "_law_lines", "_law_k", "_law_outcome", "_law_edge", "_law_front"]) (ps := ["_law_rows_here", "_law_nodes", "_law_actions"]) F ⟨rfl, rfl, rfl, by decide +kernel, rfl, by decide +kernel, by decide +kernel⟩ rfl hb fun cdv A outer s H E hr => ?_
  have tk : Takes (cxOf (L2.CX P w) P w K mg base ["_law_rows_here", "_law_nodes", "_law_actions", "_law_lines", "_law_k", "_law_outcome", "_law_edge", "_law_front"] "_law_due" (defScope (top 25)) a.due cdv A outer s H E) (fun cls d _ H => E cls d H) := takes_of rfl rfl rfl rfl
  have hN : (["_law_rows_here", "_law_nodes", "_law_actions", "_law_lines", "_law_k", "_law_outcome", "_law_edge", "_law_front"] : List Str).Nodup := by decide +kernel
  exact (lss_cons (ls_set 3 hN (le_lst la_nil)) (lss_cons (ls_for (passes_of rfl) rfl (li_seq rfl (le_callG (call_fn (e_order h) (hr.mono (by decide)) tk) (e_order (base := base) h).kp h.g_order (la_cons (le_var 0) la_nil))) (lg_name (i := 4) hN) (lss_one (ls_for (passes_of rfl) rfl (li_range1 h.n_range (la_cons (le_callB (c_len rfl) h.n_len PyProof.Rows.Boot.«len» (la_cons (le_ix (o_sub_own rfl hr.u1 tk .nil) (le_var 0) (le_var 4)) la_nil)) la_nil)) (lg_name (i := 5) hN) (lss_cons (ls_set 6 hN (le_ix (o_sub_own rfl hr.u1 tk .nil) (le_ix (o_sub_own rfl hr.u1 tk .nil) (le_var 0) (le_var 4)) (le_var 5))) (lss_one (ls_if (lt_cmp o_isnot (le_var 6) le_non) (lss_cons (ls_set 7 hN (le_op (o_add rfl) (le_op (o_add rfl) (le_bm rfl PySem.F.plainAttrs_str PySem.F.slot_str_ljust PySem.F.type_str_ljust m_ljust (le_ix (o_sub_own rfl hr.u1 tk .nil) (le_var 1) (le_var 4)) (la_cons le_int la_nil)) le_str) (le_bm rfl PySem.F.plainAttrs_str PySem.F.slot_str_rjust PySem.F.type_str_rjust m_rjust (le_callTy c_str h.n_str PyProof.Rows.Boot.«str» (la_cons (le_var 5) la_nil)) (la_cons le_int la_nil)))) (lss_cons (ls_set 7 hN (le_op (o_add rfl) (le_op (o_add rfl) (le_var 7) le_str) (le_bm rfl PySem.F.plainAttrs_str PySem.F.slot_str_ljust PySem.F.type_str_ljust m_ljust (le_ix (o_sub_own rfl hr.u1 tk .nil) (le_var 2) (le_ix (o_sub_own rfl hr.u1 tk .nil) (le_var 6) le_int)) (la_cons le_int la_nil)))) (lss_one (ls_expr (le_bm rfl PySem.F.plainAttrs_list PySem.F.slot_list_append PySem.F.type_list_append m_append (le_var 3) (la_cons (le_op (o_add rfl) (le_op (o_add rfl) (le_var 7) le_str) (le_if (lt_cmp o_ge (le_ix (o_sub_own rfl hr.u1 tk .nil) (le_var 6) le_int) le_int) (le_ix (o_sub_own rfl hr.u1 tk .nil) (le_var 1) (le_ix (o_sub_own rfl hr.u1 tk .nil) (le_var 6) le_int)) le_str)) la_nil)))))) lss_nil)))))) (lss_one (ls_ret (le_var 3)))))
theorem e_Chart_len (h : Fx P w K mg a) : FnE P w K mg base (tab K a) 1 a.Chart_len 1 f_Chart_len := by
  obtain ⟨fd, F, hb⟩ := h.f_Chart_len
  refine fnE_of (N := ["self"]) (ps := ["self"]) F ⟨rfl, rfl, rfl, by decide +kernel, rfl, by decide +kernel, by decide +kernel⟩ rfl hb fun cdv A outer s H E hr => ?_
  have tk : Takes (cxOf (L2.CX P w) P w K mg base ["self"] "Chart.__len__" (defScope (inClass (top 15) 10)) a.Chart_len cdv A outer s H E) (fun cls d _ H => E cls d H) := takes_of rfl rfl rfl rfl
  have hN : (["self"] : List Str).Nodup := by decide +kernel
  exact (lss_one (ls_ret (le_callB (c_len rfl) h.n_len PyProof.Rows.Boot.«len» (la_cons (le_fld 2 rfl rfl (le_var 0)) la_nil))))
theorem o_law (h : Fx P w K mg a) {fd : FuncData} (F : Fun K "law" "law" (top 26) a.law fd) : FnOk P w K mg base (L2.CX P w) 8 a.law fd ["_law_script"] (LF (tab K a) 1 f_law) := by
  refine fnOk_of (N := ["_law_script", "_law_pool", "_law_rows_here", "_law_wide", "_law_turn", "_law_k", "_law_place", "_law_nodes", "_law_actions", "_law_chart", "_law_order_here", "_law_told", "_law_edge", "_law_before", "_law_expected", "_law_node", "_law_outcome", "_law_front", "_law_one"]) (ps := ["_law_script"]) F ⟨rfl, rfl, rfl, by decide +kernel, rfl, by decide +kernel, by decide +kernel⟩ rfl fun cdv A outer s H E hr => ?_
  have tk : Takes (cxOf (L2.CX P w) P w K mg base ["_law_script", "_law_pool", "_law_rows_here", "_law_wide", "_law_turn", "_law_k", "_law_place", "_law_nodes", "_law_actions", "_law_chart", "_law_order_here", "_law_told", "_law_edge", "_law_before", "_law_expected", "_law_node", "_law_outcome", "_law_front", "_law_one"] "law" (defScope (top 26)) a.law cdv A outer s H E) (fun cls d _ H => E cls d H) := takes_of rfl rfl rfl rfl
  have hN : (["_law_script", "_law_pool", "_law_rows_here", "_law_wide", "_law_turn", "_law_k", "_law_place", "_law_nodes", "_law_actions", "_law_chart", "_law_order_here", "_law_told", "_law_edge", "_law_before", "_law_expected", "_law_node", "_law_outcome", "_law_front", "_law_one"] : List Str).Nodup := by decide +kernel
  exact (lss_cons (ls_set 1 hN (le_lst (la_cons (le_callTy (c_list rfl) h.n_list PyProof.Rows.Boot.«list» (la_cons (le_var 0) la_nil)) (la_cons le_int (la_cons le_int (la_cons le_int la_nil)))))) (lss_cons (ls_set 2 hN (le_callG (call_fn (e_rows h) (hr.mono (by decide)) tk) (e_rows (base := base) h).kp h.g_rows (la_cons (le_var 1) (la_cons le_int (la_cons le_int la_nil))))) (lss_cons (ls_set 3 hN (le_callB (c_len rfl) h.n_len PyProof.Rows.Boot.«len» (la_cons (le_ix (o_sub_own rfl hr.u1 tk .nil) (le_var 2) le_int) la_nil))) (lss_cons (ls_for (passes_of rfl) rfl (li_range1 h.n_range (la_cons (le_callG (call_fn (e_draw h) (hr.mono (by decide)) tk) (e_draw (base := base) h).kp h.g_draw (la_cons (le_var 1) (la_cons le_int la_nil))) la_nil)) (lg_name (i := 4) hN) (lss_cons (ls_set 5 hN (le_callG (call_fn (e_draw h) (hr.mono (by decide)) tk) (e_draw (base := base) h).kp h.g_draw (la_cons (le_var 1) (la_cons (le_callB (c_len rfl) h.n_len PyProof.Rows.Boot.«len» (la_cons (le_var 2) la_nil)) la_nil)))) (lss_cons (ls_set 6 hN (le_callG (call_fn (e_draw h) (hr.mono (by decide)) tk) (e_draw (base := base) h).kp h.g_draw (la_cons (le_var 1) (la_cons (le_var 3) la_nil)))) (lss_one (ls_asg (le_op (o_add rfl) (le_op (o_add rfl) (le_slice rfl (le_ix (o_sub_own rfl hr.u1 tk .nil) (le_var 2) (le_var 5)) lo_none (lo_some (le_var 6))) (le_lst (la_cons le_non la_nil))) (le_slice rfl (le_ix (o_sub_own rfl hr.u1 tk .nil) (le_var 2) (le_var 5)) (lo_some (le_op (o_add rfl) (le_var 6) le_int)) lo_none)) (lg_sub (o_set hr.u1 tk .nil) (le_var 2) (le_var 5))))))) (lss_cons (ls_set 7 hN (le_callG (call_fn (e_words h) (hr.mono (by decide)) tk) (e_words (base := base) h).kp h.g_words (la_cons (le_var 1) (la_cons (le_callB (c_len rfl) h.n_len PyProof.Rows.Boot.«len» (la_cons (le_var 2) la_nil)) la_nil)))) (lss_cons (ls_set 8 hN (le_callG (call_fn (e_words h) (hr.mono (by decide)) tk) (e_words (base := base) h).kp h.g_words (la_cons (le_var 1) (la_cons le_int la_nil)))) (lss_cons (ls_set 9 hN (le_callG (call_fn (e_part h) (hr.mono (by decide)) tk) (e_part (base := base) h).kp h.g_part (la_cons (le_var 2) (la_cons (le_var 7) (la_cons (le_var 8) la_nil))))) (lss_cons (ls_set 10 hN (le_callG (call_fn (e_order h) (hr.mono (by decide)) tk) (e_order (base := base) h).kp h.g_order (la_cons (le_var 2) la_nil))) (lss_cons (ls_expr (le_meth rfl (show ("start_at" : Str) ∉ fnsL from by decide +kernel) (show DispOk _ _ _ _ _ from (.cons (at0 rfl ⟨h.m_Chart_start_at, call_fn (e_Chart_start_at h) (hr.mono (by decide)) tk⟩) .nil)) (le_var 9) (la_cons (le_ix (o_sub_own rfl hr.u1 tk .nil) (le_var 7) (le_ix (o_sub_own rfl hr.u1 tk .nil) (le_var 10) (le_callG (call_fn (e_draw h) (hr.mono (by decide)) tk) (e_draw (base := base) h).kp h.g_draw (la_cons (le_var 1) (la_cons (le_callB (c_len rfl) h.n_len PyProof.Rows.Boot.«len» (la_cons (le_var 10) la_nil)) la_nil))))) la_nil))) (lss_cons (ls_set 11 hN (le_callG (call_fn (e_edge_table h) (hr.mono (by decide)) tk) (e_edge_table (base := base) h).kp h.g_edge_table (la_cons (le_var 9) la_nil))) (lss_cons (ls_if (PW.pt (lw_or (lt_not (lt_tru rfl (le_is (t := t_list) rfl (.ty "list") (isOk_b rfl (by decide +kernel)) h.n_isinstance (le_var 11) (pe_bltn (v := .ty "list") rfl h.n_list PyProof.Rows.Boot.«list» rfl)))) (lw_or1 (lt_cmp (o_ne rfl hr.u64) (le_var 11) (le_callG (call_fn (e_due h) (hr.mono (by decide)) tk) (e_due (base := base) h).kp h.g_due (la_cons (le_var 2) (la_cons (le_var 7) (la_cons (le_var 8) la_nil)))))))) (lss_one (ls_ret le_bl)) lss_nil) (lss_cons (ls_expr (le_bm rfl PySem.F.plainAttrs_list PySem.F.slot_list_append PySem.F.type_list_append m_append (le_var 11) (la_cons le_str la_nil))) (lss_cons (ls_if (lt_cmp (o_ne rfl hr.u64) (le_callTy (c_listO rfl rfl (show DispI _ _ _ from (DispI.cons rfl (at0 rfl h.it_Chart) ⟨h.n_iter, fun c f C h => by cases h⟩)) (show DispL _ _ _ _ from (.cons (e_Chart_len h) (hr.mono (by decide)) (at0 rfl h.s_Chart_len) .nil))) h.n_list PyProof.Rows.Boot.«list» (la_cons (le_var 9) la_nil)) (le_lc rfl hN (li_seq rfl (le_var 10)) (own := [("_law_k", 5)]) (blkOk_by (N := ["_law_script", "_law_pool", "_law_rows_here", "_law_wide", "_law_turn", "_law_k", "_law_place", "_law_nodes", "_law_actions", "_law_chart", "_law_order_here", "_law_told", "_law_edge", "_law_before", "_law_expected", "_law_node", "_law_outcome", "_law_front", "_law_one"]) (sc := defScope (top 26)) (by decide +kernel)) (fun _ _ _ _ _ => (lc_name 5 hN)) (fun _ _ _ _ _ => lts_nil) (fun _ _ _ _ _ => (le_ix (o_sub_own rfl hr.u1 takes0 .nil) (le_var 7) (le_var 5))))) (lss_one (ls_ret le_bl)) lss_nil) (lss_cons (ls_set 5 hN (le_ix (o_sub_own rfl hr.u1 tk .nil) (le_var 10) (le_callG (call_fn (e_draw h) (hr.mono (by decide)) tk) (e_draw (base := base) h).kp h.g_draw (la_cons (le_var 1) (la_cons (le_callB (c_len rfl) h.n_len PyProof.Rows.Boot.«len» (la_cons (le_var 10) la_nil)) la_nil))))) (lss_cons (ls_set 6 hN (le_callG (call_fn (e_draw h) (hr.mono (by decide)) tk) (e_draw (base := base) h).kp h.g_draw (la_cons (le_var 1) (la_cons (le_var 3) la_nil)))) (lss_cons (ls_set 12 hN (le_tup (la_cons (le_callG (call_fn (e_draw h) (hr.mono (by decide)) tk) (e_draw (base := base) h).kp h.g_draw (la_cons (le_var 1) (la_cons le_int la_nil))) (la_cons (le_ix (o_sub_own rfl hr.u1 tk .nil) (le_var 10) (le_callG (call_fn (e_draw h) (hr.mono (by decide)) tk) (e_draw (base := base) h).kp h.g_draw (la_cons (le_var 1) (la_cons (le_callB (c_len rfl) h.n_len PyProof.Rows.Boot.«len» (la_cons (le_var 10) la_nil)) la_nil)))) la_nil)))) (lss_cons (ls_set 13 hN (le_callG (call_fn (e_edge_table h) (hr.mono (by decide)) tk) (e_edge_table (base := base) h).kp h.g_edge_table (la_cons (le_var 9) la_nil))) (lss_cons (ls_asg (le_tup (la_cons (le_ix (o_sub_own rfl hr.u1 tk .nil) (le_var 8) (le_ix (o_sub_own rfl hr.u1 tk .nil) (le_var 12) le_int)) (la_cons (le_ix (o_sub_own rfl hr.u1 tk .nil) (le_var 7) (le_ix (o_sub_own rfl hr.u1 tk .nil) (le_var 12) le_int)) la_nil))) (lg_sub (o_set hr.u1 tk (show DispS _ _ _ _ from (.cons (e_Chart_setitem h) (hr.mono (by decide)) (at0 rfl h.s_Chart_setitem) .nil))) (le_var 9) (le_tup (la_cons (le_ix (o_sub_own rfl hr.u1 tk .nil) (le_var 7) (le_var 5)) (la_cons (le_var 6) la_nil))))) (lss_cons (ls_asg (le_op (o_add rfl) (le_op (o_add rfl) (le_slice rfl (le_ix (o_sub_own rfl hr.u1 tk .nil) (le_var 2) (le_var 5)) lo_none (lo_some (le_var 6))) (le_lst (la_cons (le_var 12) la_nil))) (le_slice rfl (le_ix (o_sub_own rfl hr.u1 tk .nil) (le_var 2) (le_var 5)) (lo_some (le_op (o_add rfl) (le_var 6) le_int)) lo_none)) (lg_sub (o_set hr.u1 tk .nil) (le_var 2) (le_var 5))) (lss_cons (ls_set 14 hN (le_lst la_nil)) (lss_cons (ls_for (passes_of rfl) rfl (li_any rfl (show DispI _ _ _ from (DispI.cons rfl (at0 rfl h.it_Chart) ⟨h.n_iter, fun c f C h => by cases h⟩)) (hr.mono (by decide)) (le_var 9)) (lg_name (i := 15) hN) (lss_one (ls_for (passes_of rfl) rfl (li_range1 h.n_range (la_cons (le_var 3) la_nil)) (lg_name (i := 16) hN) (lss_cons (ls_set 12 hN (le_ix (o_sub_own rfl hr.u1 tk .nil) (le_ix (o_sub_own rfl hr.u1 tk .nil) (le_var 2) (le_bm rfl PySem.F.plainAttrs_list PySem.F.slot_list_index PySem.F.type_list_index (m_index rfl) (le_var 7) (la_cons (le_var 15) la_nil))) (le_var 16))) (lss_one (ls_if (lt_cmp o_isnot (le_var 12) le_non) (lss_cons (ls_set 17 hN (le_op (o_add rfl) (le_op (o_add rfl) (le_bm rfl PySem.F.plainAttrs_str PySem.F.slot_str_ljust PySem.F.type_str_ljust m_ljust (le_var 15) (la_cons le_int la_nil)) le_str) (le_bm rfl PySem.F.plainAttrs_str PySem.F.slot_str_rjust PySem.F.type_str_rjust m_rjust (le_callTy c_str h.n_str PyProof.Rows.Boot.«str» (la_cons (le_var 16) la_nil)) (la_cons le_int la_nil)))) (lss_cons (ls_set 17 hN (le_op (o_add rfl) (le_op (o_add rfl) (le_var 17) le_str) (le_bm rfl PySem.F.plainAttrs_str PySem.F.slot_str_ljust PySem.F.type_str_ljust m_ljust (le_ix (o_sub_own rfl hr.u1 tk .nil) (le_var 8) (le_ix (o_sub_own rfl hr.u1 tk .nil) (le_var 12) le_int)) (la_cons le_int la_nil)))) (lss_one (ls_expr (le_bm rfl PySem.F.plainAttrs_list PySem.F.slot_list_append PySem.F.type_list_append m_append (le_var 14) (la_cons (le_op (o_add rfl) (le_op (o_add rfl) (le_var 17) le_str) (le_if (lt_cmp o_ge (le_ix (o_sub_own rfl hr.u1 tk .nil) (le_var 12) le_int) le_int) (le_ix (o_sub_own rfl hr.u1 tk .nil) (le_var 7) (le_ix (o_sub_own rfl hr.u1 tk .nil) (le_var 12) le_int)) le_str)) la_nil)))))) lss_nil)))))) (lss_one (ls_ret (le_and (le_cmp (o_eq rfl hr.u64) (le_callG (call_fn (e_edge_table h) (hr.mono (by decide)) tk) (e_edge_table (base := base) h).kp h.g_edge_table (la_cons (le_var 9) la_nil)) (le_var 14)) (le_and (le_cmp (o_eq rfl hr.u64) (le_var 13) (le_slice rfl (le_var 11) lo_none (lo_some le_neg))) (le_one (le_cmp (o_eq rfl hr.u64) (le_callTy (c_listO rfl rfl (show DispI _ _ _ from (DispI.cons rfl (at0 rfl h.it_Chart) ⟨h.n_iter, fun c f C h => by cases h⟩)) (show DispL _ _ _ _ from (.cons (e_Chart_len h) (hr.mono (by decide)) (at0 rfl h.s_Chart_len) .nil))) h.n_list PyProof.Rows.Boot.«list» (la_cons (le_var 9) la_nil)) (le_lc rfl hN (li_seq rfl (le_var 10)) (own := [("_law_one", 18)]) (blkOk_by (N := ["_law_script", "_law_pool", "_law_rows_here", "_law_wide", "_law_turn", "_law_k", "_law_place", "_law_nodes", "_law_actions", "_law_chart", "_law_order_here", "_law_told", "_law_edge", "_law_before", "_law_expected", "_law_node", "_law_outcome", "_law_front", "_law_one"]) (sc := defScope (top 26)) (by decide +kernel)) (fun _ _ _ _ _ => (lc_name 18 hN)) (fun _ _ _ _ _ => lts_nil) (fun _ _ _ _ _ => (le_ix (o_sub_own rfl hr.u1 takes0 .nil) (le_var 7) (le_var 18)))))))))))))))))))))))))))))))
end K12
end WL
end
section
set_option maxRecDepth 100000
set_option maxHeartbeats 4000000
namespace WL
namespace K12
open PySem PySem.Spec L2
open PyProof.Rows hiding St
open WL.Q
abbrev PP : Program := PySem.Challenge.pw_strikeloops_k12_edge_tables
set_option autoImplicit true in
theorem fx_mk {w : World} {K : PySem.W.Frag} {mg : Str → Option Value} {h : Heap} {fa A_draw A_rows A_word A_words A_BadOutcome A_LoopError A_is_name A_BadName A_check_name A_Chart_init A_Chart A_TooLarge A_Chart_setitem A_part A_order A_NoNode A_Chart_start_set A_Chart_start_prop A_Chart_start_at A_Chart_edges A_edge_table A_due A_Chart_len A_Chart_iter A_law : Addr} (X : K.In h) (G : h.Ns mainGlobals mg) (hfa : mg "law" = some (.ref fa))
    (r7 : PySem.W.nsIn K mainGlobals "_law_draw" = some (some (.ref A_draw)))
    (r13 : PySem.W.nsIn K mainGlobals "_law_rows" = some (some (.ref A_rows)))
    (r17 : PySem.W.nsIn K mainGlobals "_law_word" = some (some (.ref A_word)))
    (r21 : PySem.W.nsIn K mainGlobals "_law_words" = some (some (.ref A_words)))
    (r22 : PySem.W.nsIn K mainGlobals "MOST_OUTCOMES" = some (some (.int 4 t_MOST_OUTCOMES)))
    (r23 : PySem.W.nsIn K mainGlobals "LoopError" = some (some (.ref A_LoopError)))
    (r24 : PySem.W.nsIn K mainGlobals "BadOutcome" = some (some (.ref A_BadOutcome)))
    (r55 : PySem.W.nsIn K mainGlobals "FIRST" = some (some (.str "abcdefghijklmnopqrstuvwxyz" t_FIRST)))
    (r56 : PySem.W.nsIn K mainGlobals "OTHERS" = some (some (.str "abcdefghijklmnopqrstuvwxyz0123456789" t_OTHERS)))
    (r61 : PySem.W.nsIn K mainGlobals "is_name" = some (some (.ref A_is_name)))
    (r62 : PySem.W.nsIn K mainGlobals "BadName" = some (some (.ref A_BadName)))
    (r89 : PySem.W.nsIn K mainGlobals "check_name" = some (some (.ref A_check_name)))
    (r109 : PySem.W.nsIn K mainGlobals "Chart" = some (some (.ref A_Chart)))
    (r112 : PySem.W.nsIn K mainGlobals "TooLarge" = some (some (.ref A_TooLarge)))
    (r146 : PySem.W.nsIn K mainGlobals "_law_partial" = some (some (.ref A_part)))
    (r150 : PySem.W.nsIn K mainGlobals "_law_order" = some (some (.ref A_order)))
    (r151 : PySem.W.nsIn K mainGlobals "NoNode" = some (some (.ref A_NoNode)))
    (r195 : PySem.W.nsIn K mainGlobals "edge_table" = some (some (.ref A_edge_table)))
    (r201 : PySem.W.nsIn K mainGlobals "_law_due" = some (some (.ref A_due)))
    (r216 : PySem.W.nsIn K mainGlobals "law" = some (some (.ref A_law)))
    (r30 : PySem.W.findIn K (.ref A_BadOutcome) "__init__" = some (some (.ref A_BadOutcome_init)))
    (r68 : PySem.W.findIn K (.ref A_BadName) "__init__" = some (some (.ref A_BadName_init)))
    (r94 : PySem.W.findIn K (.ref A_Chart) "__init__" = some (some (.ref A_Chart_init)))
    (r110 : PySem.W.findIn K (.ref A_Chart) "MOST" = some (some (.int 16 tk_Chart_MOST)))
    (r118 : PySem.W.findIn K (.ref A_TooLarge) "__init__" = some (some (.ref A_TooLarge_init)))
    (r139 : PySem.W.findIn K (.ref A_Chart) "__setitem__" = some (some (.ref A_Chart_setitem)))
    (r157 : PySem.W.findIn K (.ref A_NoNode) "__init__" = some (some (.ref A_NoNode_init)))
    (r178 : PySem.W.findIn K (.ref A_Chart) "start" = some (some (.ref A_Chart_start_prop)))
    (r185 : PySem.W.findIn K (.ref A_Chart) "start_at" = some (some (.ref A_Chart_start_at)))
    (r190 : PySem.W.findIn K (.ref A_Chart) "edges" = some (some (.ref A_Chart_edges)))
    (r205 : PySem.W.findIn K (.ref A_Chart) "__len__" = some (some (.ref A_Chart_len)))
    (r210 : PySem.W.findIn K (.ref A_Chart) "__iter__" = some (some (.ref A_Chart_iter)))
    (r179 : PySem.W.recIn K A_Chart_start_prop "property" = some (rg_Chart_start_set :: .ref A_Chart_start_set :: rest_Chart_start_set))
    (r4 : K.lookup A_draw = some ⟨oc_draw, od_draw, .func (PySem.W.fnOf "_law_draw" "_law_draw" (defArgs (top 19)) (defBody (top 19)) (defScope (top 19)) .none kV_draw dc_draw pm_draw an_draw cd_draw ct_draw), sl_draw⟩)
    (r10 : K.lookup A_rows = some ⟨oc_rows, od_rows, .func (PySem.W.fnOf "_law_rows" "_law_rows" (defArgs (top 22)) (defBody (top 22)) (defScope (top 22)) .none kV_rows dc_rows pm_rows an_rows cd_rows ct_rows), sl_rows⟩)
    (r14 : K.lookup A_word = some ⟨oc_word, od_word, .func (PySem.W.fnOf "_law_word" "_law_word" (defArgs (top 20)) (defBody (top 20)) (defScope (top 20)) .none kV_word dc_word pm_word an_word cd_word ct_word), sl_word⟩)
    (r18 : K.lookup A_words = some ⟨oc_words, od_words, .func (PySem.W.fnOf "_law_words" "_law_words" (defArgs (top 21)) (defBody (top 21)) (defScope (top 21)) .none kV_words dc_words pm_words an_words cd_words ct_words), sl_words⟩)
    (r25 : K.lookup A_BadOutcome = some (excClassObj nm_BadOutcome q_BadOutcome A_BadOutcome N_BadOutcome bs_BadOutcome (.ref A_LoopError :: [.type "ValueError", .type "Exception", .type "BaseException", .type "object"]) true sn_BadOutcome sub_BadOutcome ab_BadOutcome col_BadOutcome dd_BadOutcome k0_BadOutcome k1_BadOutcome k2_BadOutcome k3_BadOutcome k5_BadOutcome "ValueError.__new__"))
    (r41 : K.lookup A_BadOutcome_init = some ⟨oc_BadOutcome, od_BadOutcome, .func (PySem.W.ksFn "__init__" qual_BadOutcome (defArgs (inClass (top 4) 0)) (defBody (inClass (top 4) 0)) (defScope (inClass (top 4) 0)) .none kV_BadOutcome doc_BadOutcome pm_BadOutcome an_BadOutcome (.ref cda_BadOutcome) ct_BadOutcome cc_BadOutcome), osl_BadOutcome⟩)
    (r58 : K.lookup A_is_name = some ⟨oc_is_name, od_is_name, .func (PySem.W.fnOf "is_name" "is_name" (defArgs (top 12)) (defBody (top 12)) (defScope (top 12)) .none kV_is_name dc_is_name pm_is_name an_is_name cd_is_name ct_is_name), sl_is_name⟩)
    (r63 : K.lookup A_BadName = some (excClassObj nm_BadName q_BadName A_BadName N_BadName bs_BadName (.ref A_LoopError :: [.type "ValueError", .type "Exception", .type "BaseException", .type "object"]) true sn_BadName sub_BadName ab_BadName col_BadName dd_BadName k0_BadName k1_BadName k2_BadName k3_BadName k5_BadName "ValueError.__new__"))
    (r77 : K.lookup A_BadName_init = some ⟨oc_BadName, od_BadName, .func (PySem.W.ksFn "__init__" qual_BadName (defArgs (inClass (top 3) 0)) (defBody (inClass (top 3) 0)) (defScope (inClass (top 3) 0)) .none kV_BadName doc_BadName pm_BadName an_BadName (.ref cda_BadName) ct_BadName cc_BadName), osl_BadName⟩)
    (r86 : K.lookup A_check_name = some ⟨oc_check_name, od_check_name, .func (PySem.W.fnOf "check_name" "check_name" (defArgs (top 13)) (defBody (top 13)) (defScope (top 13)) .none kV_check_name dc_check_name pm_check_name an_check_name cd_check_name ct_check_name), sl_check_name⟩)
    (r90 : K.lookup A_Chart_init = some ⟨oc_Chart_init, od_Chart_init, .func (PySem.W.fnOf "__init__" "Chart.__init__" (defArgs (inClass (top 15) 1)) (defBody (inClass (top 15) 1)) (defScope (inClass (top 15) 1)) .none kV_Chart_init dc_Chart_init pm_Chart_init an_Chart_init cd_Chart_init ct_Chart_init), sl_Chart_init⟩)
    (r113 : K.lookup A_TooLarge = some (excClassObj nm_TooLarge q_TooLarge A_TooLarge N_TooLarge bs_TooLarge (.ref A_LoopError :: [.type "ValueError", .type "Exception", .type "BaseException", .type "object"]) true sn_TooLarge sub_TooLarge ab_TooLarge col_TooLarge dd_TooLarge k0_TooLarge k1_TooLarge k2_TooLarge k3_TooLarge k5_TooLarge "ValueError.__new__"))
    (r127 : K.lookup A_TooLarge_init = some ⟨oc_TooLarge, od_TooLarge, .func (PySem.W.ksFn "__init__" qual_TooLarge (defArgs (inClass (top 7) 0)) (defBody (inClass (top 7) 0)) (defScope (inClass (top 7) 0)) .none kV_TooLarge doc_TooLarge pm_TooLarge an_TooLarge (.ref cda_TooLarge) ct_TooLarge cc_TooLarge), osl_TooLarge⟩)
    (r136 : K.lookup A_Chart_setitem = some ⟨oc_Chart_setitem, od_Chart_setitem, .func (PySem.W.fnOf "__setitem__" "Chart.__setitem__" (defArgs (inClass (top 15) 8)) (defBody (inClass (top 15) 8)) (defScope (inClass (top 15) 8)) .none kV_Chart_setitem dc_Chart_setitem pm_Chart_setitem an_Chart_setitem cd_Chart_setitem ct_Chart_setitem), sl_Chart_setitem⟩)
    (r143 : K.lookup A_part = some ⟨oc_part, od_part, .func (PySem.W.fnOf "_law_partial" "_law_partial" (defArgs (top 23)) (defBody (top 23)) (defScope (top 23)) .none kV_part dc_part pm_part an_part cd_part ct_part), sl_part⟩)
    (r147 : K.lookup A_order = some ⟨oc_order, od_order, .func (PySem.W.fnOf "_law_order" "_law_order" (defArgs (top 24)) (defBody (top 24)) (defScope (top 24)) .none kV_order dc_order pm_order an_order cd_order ct_order), sl_order⟩)
    (r152 : K.lookup A_NoNode = some (excClassObj nm_NoNode q_NoNode A_NoNode N_NoNode bs_NoNode (.ref A_LoopError :: [.type "ValueError", .type "Exception", .type "BaseException", .type "object"]) true sn_NoNode sub_NoNode ab_NoNode col_NoNode dd_NoNode k0_NoNode k1_NoNode k2_NoNode k3_NoNode k5_NoNode "ValueError.__new__"))
    (r166 : K.lookup A_NoNode_init = some ⟨oc_NoNode, od_NoNode, .func (PySem.W.ksFn "__init__" qual_NoNode (defArgs (inClass (top 5) 0)) (defBody (inClass (top 5) 0)) (defScope (inClass (top 5) 0)) .none kV_NoNode doc_NoNode pm_NoNode an_NoNode (.ref cda_NoNode) ct_NoNode cc_NoNode), osl_NoNode⟩)
    (r175 : K.lookup A_Chart_start_set = some ⟨oc_Chart_start_set, od_Chart_start_set, .func (PySem.W.fnOf "start" "Chart.start" (defArgs (inClass (top 15) 3)) (defBody (inClass (top 15) 3)) (defScope (inClass (top 15) 3)) .none kV_Chart_start_set dc_Chart_start_set pm_Chart_start_set an_Chart_start_set cd_Chart_start_set ct_Chart_start_set), sl_Chart_start_set⟩)
    (r182 : K.lookup A_Chart_start_at = some ⟨oc_Chart_start_at, od_Chart_start_at, .func (PySem.W.fnOf "start_at" "Chart.start_at" (defArgs (inClass (top 15) 4)) (defBody (inClass (top 15) 4)) (defScope (inClass (top 15) 4)) .none kV_Chart_start_at dc_Chart_start_at pm_Chart_start_at an_Chart_start_at cd_Chart_start_at ct_Chart_start_at), sl_Chart_start_at⟩)
    (r187 : K.lookup A_Chart_edges = some ⟨oc_Chart_edges, od_Chart_edges, .func (PySem.W.fnOf "edges" "Chart.edges" (defArgs (inClass (top 15) 12)) (defBody (inClass (top 15) 12)) (defScope (inClass (top 15) 12)) .none kV_Chart_edges dc_Chart_edges pm_Chart_edges an_Chart_edges cd_Chart_edges ct_Chart_edges), sl_Chart_edges⟩)
    (r192 : K.lookup A_edge_table = some ⟨oc_edge_table, od_edge_table, .func (PySem.W.fnOf "edge_table" "edge_table" (defArgs (top 17)) (defBody (top 17)) (defScope (top 17)) .none kV_edge_table dc_edge_table pm_edge_table an_edge_table cd_edge_table ct_edge_table), sl_edge_table⟩)
    (r198 : K.lookup A_due = some ⟨oc_due, od_due, .func (PySem.W.fnOf "_law_due" "_law_due" (defArgs (top 25)) (defBody (top 25)) (defScope (top 25)) .none kV_due dc_due pm_due an_due cd_due ct_due), sl_due⟩)
    (r202 : K.lookup A_Chart_len = some ⟨oc_Chart_len, od_Chart_len, .func (PySem.W.fnOf "__len__" "Chart.__len__" (defArgs (inClass (top 15) 10)) (defBody (inClass (top 15) 10)) (defScope (inClass (top 15) 10)) .none kV_Chart_len dc_Chart_len pm_Chart_len an_Chart_len cd_Chart_len ct_Chart_len), sl_Chart_len⟩)
    (r209 : K.lookup A_Chart_iter = some ⟨oc_Chart_iter, od_Chart_iter, .func (PySem.W.fnOf "__iter__" "Chart.__iter__" (defArgs (inClass (top 15) 11)) (defBody (inClass (top 15) 11)) (defScope (inClass (top 15) 11)) .none kV_Chart_iter dc_Chart_iter pm_Chart_iter an_Chart_iter cd_Chart_iter ct_Chart_iter), sl_Chart_iter⟩)
    (r213 : K.lookup A_law = some ⟨oc_law, od_law, .func (PySem.W.fnOf "law" "law" (defArgs (top 26)) (defBody (top 26)) (defScope (top 26)) .none kV_law dc_law pm_law an_law cd_law ct_law), sl_law⟩)
    (r5 : PySem.W.codeIn K cd_draw "_law_draw" = true)
    (r6 : PySem.W.keepIn K (.ref A_draw) = true)
    (r11 : PySem.W.codeIn K cd_rows "_law_rows" = true)
    (r12 : PySem.W.keepIn K (.ref A_rows) = true)
    (r15 : PySem.W.codeIn K cd_word "_law_word" = true)
    (r16 : PySem.W.keepIn K (.ref A_word) = true)
    (r19 : PySem.W.codeIn K cd_words "_law_words" = true)
    (r20 : PySem.W.keepIn K (.ref A_words) = true)
    (r42 : PySem.W.codeIn K (.ref cda_BadOutcome) qual_BadOutcome = true)
    (r43 : K.lookup cda_BadOutcome = some ⟨ccl_BadOutcome, cdd_BadOutcome, .fields vs_BadOutcome, ccs_BadOutcome⟩)
    (r45 : K.lookup cc_BadOutcome = some ⟨cl_BadOutcome, cld_BadOutcome, .cell (some (.ref A_BadOutcome)), csl_BadOutcome⟩)
    (r59 : PySem.W.codeIn K cd_is_name "is_name" = true)
    (r60 : PySem.W.keepIn K (.ref A_is_name) = true)
    (r78 : PySem.W.codeIn K (.ref cda_BadName) qual_BadName = true)
    (r79 : K.lookup cda_BadName = some ⟨ccl_BadName, cdd_BadName, .fields vs_BadName, ccs_BadName⟩)
    (r81 : K.lookup cc_BadName = some ⟨cl_BadName, cld_BadName, .cell (some (.ref A_BadName)), csl_BadName⟩)
    (r87 : PySem.W.codeIn K cd_check_name "check_name" = true)
    (r88 : PySem.W.keepIn K (.ref A_check_name) = true)
    (r91 : PySem.W.codeIn K cd_Chart_init "Chart.__init__" = true)
    (r92 : PySem.W.keepIn K (.ref A_Chart_init) = true)
    (r128 : PySem.W.codeIn K (.ref cda_TooLarge) qual_TooLarge = true)
    (r129 : K.lookup cda_TooLarge = some ⟨ccl_TooLarge, cdd_TooLarge, .fields vs_TooLarge, ccs_TooLarge⟩)
    (r131 : K.lookup cc_TooLarge = some ⟨cl_TooLarge, cld_TooLarge, .cell (some (.ref A_TooLarge)), csl_TooLarge⟩)
    (r137 : PySem.W.codeIn K cd_Chart_setitem "Chart.__setitem__" = true)
    (r138 : PySem.W.keepIn K (.ref A_Chart_setitem) = true)
    (r144 : PySem.W.codeIn K cd_part "_law_partial" = true)
    (r145 : PySem.W.keepIn K (.ref A_part) = true)
    (r148 : PySem.W.codeIn K cd_order "_law_order" = true)
    (r149 : PySem.W.keepIn K (.ref A_order) = true)
    (r167 : PySem.W.codeIn K (.ref cda_NoNode) qual_NoNode = true)
    (r168 : K.lookup cda_NoNode = some ⟨ccl_NoNode, cdd_NoNode, .fields vs_NoNode, ccs_NoNode⟩)
    (r170 : K.lookup cc_NoNode = some ⟨cl_NoNode, cld_NoNode, .cell (some (.ref A_NoNode)), csl_NoNode⟩)
    (r176 : PySem.W.codeIn K cd_Chart_start_set "Chart.start" = true)
    (r177 : PySem.W.keepIn K (.ref A_Chart_start_set) = true)
    (r183 : PySem.W.codeIn K cd_Chart_start_at "Chart.start_at" = true)
    (r184 : PySem.W.keepIn K (.ref A_Chart_start_at) = true)
    (r188 : PySem.W.codeIn K cd_Chart_edges "Chart.edges" = true)
    (r189 : PySem.W.keepIn K (.ref A_Chart_edges) = true)
    (r193 : PySem.W.codeIn K cd_edge_table "edge_table" = true)
    (r194 : PySem.W.keepIn K (.ref A_edge_table) = true)
    (r199 : PySem.W.codeIn K cd_due "_law_due" = true)
    (r200 : PySem.W.keepIn K (.ref A_due) = true)
    (r203 : PySem.W.codeIn K cd_Chart_len "Chart.__len__" = true)
    (r204 : PySem.W.keepIn K (.ref A_Chart_len) = true)
    (r212 : PySem.W.codeIn K cd_Chart_iter "Chart.__iter__" = true)
    (r214 : PySem.W.codeIn K cd_law "law" = true)
    (r215 : PySem.W.keepIn K (.ref A_law) = true)
    (r0 : PySem.W.nsIn K mainGlobals "list" = some none)
    (r1 : PySem.W.nsIn K mainGlobals "len" = some none)
    (r2 : PySem.W.nsIn K mainGlobals "abs" = some none)
    (r3 : PySem.W.nsIn K mainGlobals "int" = some none)
    (r8 : PySem.W.nsIn K mainGlobals "min" = some none)
    (r9 : PySem.W.nsIn K mainGlobals "range" = some none)
    (r26 : PySem.W.findIn K (.ref A_BadOutcome) "__setattr__" = some (some (.builtin "object.__setattr__")))
    (r27 : PySem.W.findIn K (.ref A_BadOutcome) "__getattribute__" = some (some (.builtin "BaseException.__getattribute__")))
    (r28 : PySem.W.findIn K (.ref A_BadOutcome) "__getattr__" = some none)
    (r29 : PySem.W.findIn K (.ref A_BadOutcome) "outcome" = some none)
    (r31 : PySem.W.typeIn K (.ref A_BadOutcome_init) = some (.type "function"))
    (r32 : PySem.W.keepIn K (.ref A_BadOutcome) = true)
    (r33 : PySem.W.subIn K (.ref A_BadOutcome) (.type "BaseException") = some true)
    (r34 : PySem.W.subIn K (.ref A_BadOutcome) (.type "ValueError") = some true)
    (r35 : PySem.W.typeIn K (.ref A_BadOutcome) = some (.type "type"))
    (r36 : PySem.W.hasDictIn K A_BadOutcome = true)
    (r37 : PySem.W.mroIn K A_BadOutcome (.ref A_BadOutcome) = some true)
    (r38 : PySem.W.ks_superIn K A_BadOutcome A_BadOutcome "__init__" = some (some (.builtin "ValueError.__init__")))
    (r39 : PySem.W.nsIn K cStatics "thirdparty.any" = some none)
    (r40 : PySem.W.nsIn K mainGlobals "super" = some none)
    (r44 : vs_BadOutcome[2]? = some (.str file_BadOutcome tf_BadOutcome))
    (r46 : PySem.W.subIn K (.ref A_BadOutcome) (.ref A_LoopError) = some true)
    (r47 : PySem.W.subIn K (.ref A_LoopError) (.type "BaseException") = some true)
    (r48 : PySem.W.hasDictIn K A_LoopError = true)
    (r49 : PySem.W.typeIn K (.ref A_LoopError) = some (.type "type"))
    (r50 : PySem.W.findIn K (.ref A_BadOutcome) "__class__" = some (some (.builtin "object.__class__")))
    (r51 : PySem.W.specialIn K (.builtin "object.__class__") "__get__" = some (some (.builtin "getset_descriptor.__get__")))
    (r52 : PySem.W.takesIn K (.builtin "object.__class__") = some true)
    (r53 : PySem.W.mroIn K A_BadOutcome (.type "object") = some true)
    (r57 : PySem.W.nsIn K mainGlobals "all" = some none)
    (r64 : PySem.W.findIn K (.ref A_BadName) "__setattr__" = some (some (.builtin "object.__setattr__")))
    (r65 : PySem.W.findIn K (.ref A_BadName) "__getattribute__" = some (some (.builtin "BaseException.__getattribute__")))
    (r66 : PySem.W.findIn K (.ref A_BadName) "__getattr__" = some none)
    (r67 : PySem.W.findIn K (.ref A_BadName) "name" = some none)
    (r69 : PySem.W.typeIn K (.ref A_BadName_init) = some (.type "function"))
    (r70 : PySem.W.keepIn K (.ref A_BadName) = true)
    (r71 : PySem.W.subIn K (.ref A_BadName) (.type "BaseException") = some true)
    (r72 : PySem.W.subIn K (.ref A_BadName) (.type "ValueError") = some true)
    (r73 : PySem.W.typeIn K (.ref A_BadName) = some (.type "type"))
    (r74 : PySem.W.hasDictIn K A_BadName = true)
    (r75 : PySem.W.mroIn K A_BadName (.ref A_BadName) = some true)
    (r76 : PySem.W.ks_superIn K A_BadName A_BadName "__init__" = some (some (.builtin "ValueError.__init__")))
    (r80 : vs_BadName[2]? = some (.str file_BadName tf_BadName))
    (r82 : PySem.W.subIn K (.ref A_BadName) (.ref A_LoopError) = some true)
    (r83 : PySem.W.findIn K (.ref A_BadName) "__class__" = some (some (.builtin "object.__class__")))
    (r84 : PySem.W.mroIn K A_BadName (.type "object") = some true)
    (r93 : PySem.W.makesIn K A_Chart = true)
    (r95 : PySem.W.isFn K (.ref A_Chart_init) = true)
    (r96 : PySem.W.keepIn K (.ref A_Chart) = true)
    (r97 : PySem.W.findIn K (.ref A_Chart) "most" = some none)
    (r98 : PySem.W.findIn K (.ref A_Chart) "node" = some none)
    (r99 : PySem.W.findIn K (.ref A_Chart) "outcome" = some none)
    (r100 : PySem.W.findIn K (.ref A_Chart) "name" = some none)
    (r101 : PySem.W.findIn K (.ref A_Chart) "_edges" = some none)
    (r102 : PySem.W.findIn K (.ref A_Chart) "_nodes" = some none)
    (r103 : PySem.W.findIn K (.ref A_Chart) "_start" = some none)
    (r104 : PySem.W.findIn K (.ref A_Chart) "outcomes" = some none)
    (r105 : PySem.W.plainGet K A_Chart Str.empty = true)
    (r106 : PySem.W.hasDictIn K A_Chart = true)
    (r107 : PySem.W.plainOver K A_Chart = true)
    (r108 : PySem.W.findIn K (.ref A_Chart) "__setattr__" = some (some (.builtin "object.__setattr__")))
    (r111 : PySem.W.specialIn K (.int 16 tk_Chart_MOST) "__get__" = some none)
    (r114 : PySem.W.findIn K (.ref A_TooLarge) "__setattr__" = some (some (.builtin "object.__setattr__")))
    (r115 : PySem.W.findIn K (.ref A_TooLarge) "__getattribute__" = some (some (.builtin "BaseException.__getattribute__")))
    (r116 : PySem.W.findIn K (.ref A_TooLarge) "__getattr__" = some none)
    (r117 : PySem.W.findIn K (.ref A_TooLarge) "most" = some none)
    (r119 : PySem.W.typeIn K (.ref A_TooLarge_init) = some (.type "function"))
    (r120 : PySem.W.keepIn K (.ref A_TooLarge) = true)
    (r121 : PySem.W.subIn K (.ref A_TooLarge) (.type "BaseException") = some true)
    (r122 : PySem.W.subIn K (.ref A_TooLarge) (.type "ValueError") = some true)
    (r123 : PySem.W.typeIn K (.ref A_TooLarge) = some (.type "type"))
    (r124 : PySem.W.hasDictIn K A_TooLarge = true)
    (r125 : PySem.W.mroIn K A_TooLarge (.ref A_TooLarge) = some true)
    (r126 : PySem.W.ks_superIn K A_TooLarge A_TooLarge "__init__" = some (some (.builtin "ValueError.__init__")))
    (r130 : vs_TooLarge[2]? = some (.str file_TooLarge tf_TooLarge))
    (r132 : PySem.W.subIn K (.ref A_TooLarge) (.ref A_LoopError) = some true)
    (r133 : PySem.W.findIn K (.ref A_TooLarge) "__class__" = some (some (.builtin "object.__class__")))
    (r134 : PySem.W.mroIn K A_TooLarge (.type "object") = some true)
    (r140 : PySem.W.isFn K (.ref A_Chart_setitem) = true)
    (r141 : PySem.W.fnIn K A_Chart_setitem = true)
    (r142 : PySem.W.noSeq K A_Chart = true)
    (r153 : PySem.W.findIn K (.ref A_NoNode) "__setattr__" = some (some (.builtin "object.__setattr__")))
    (r154 : PySem.W.findIn K (.ref A_NoNode) "__getattribute__" = some (some (.builtin "BaseException.__getattribute__")))
    (r155 : PySem.W.findIn K (.ref A_NoNode) "__getattr__" = some none)
    (r156 : PySem.W.findIn K (.ref A_NoNode) "node" = some none)
    (r158 : PySem.W.typeIn K (.ref A_NoNode_init) = some (.type "function"))
    (r159 : PySem.W.keepIn K (.ref A_NoNode) = true)
    (r160 : PySem.W.subIn K (.ref A_NoNode) (.type "BaseException") = some true)
    (r161 : PySem.W.subIn K (.ref A_NoNode) (.type "ValueError") = some true)
    (r162 : PySem.W.typeIn K (.ref A_NoNode) = some (.type "type"))
    (r163 : PySem.W.hasDictIn K A_NoNode = true)
    (r164 : PySem.W.mroIn K A_NoNode (.ref A_NoNode) = some true)
    (r165 : PySem.W.ks_superIn K A_NoNode A_NoNode "__init__" = some (some (.builtin "ValueError.__init__")))
    (r169 : vs_NoNode[2]? = some (.str file_NoNode tf_NoNode))
    (r171 : PySem.W.subIn K (.ref A_NoNode) (.ref A_LoopError) = some true)
    (r172 : PySem.W.findIn K (.ref A_NoNode) "__class__" = some (some (.builtin "object.__class__")))
    (r173 : PySem.W.mroIn K A_NoNode (.type "object") = some true)
    (r180 : PySem.W.takerIn K A_Chart "start" = some (some (.ref A_Chart_start_prop)))
    (r181 : PySem.W.typeIn K (.ref A_Chart_start_prop) = some (.type "property"))
    (r186 : PySem.W.isFn K (.ref A_Chart_start_at) = true)
    (r191 : PySem.W.isFn K (.ref A_Chart_edges) = true)
    (r196 : PySem.W.nsIn K mainGlobals "isinstance" = some none)
    (r197 : PySem.W.nsIn K mainGlobals "str" = some none)
    (r206 : PySem.W.isFn K (.ref A_Chart_len) = true)
    (r207 : PySem.W.fnIn K A_Chart_len = true)
    (r208 : PySem.W.nsIn K mainGlobals "iter" = some none)
    (r211 : PySem.W.isFn K (.ref A_Chart_iter) = true)
    (r54 : ((PP.main.file : Str) == file_BadOutcome) = true)
    (r85 : ((PP.main.file : Str) == file_BadName) = true)
    (r135 : ((PP.main.file : Str) == file_TooLarge) = true)
    (r174 : ((PP.main.file : Str) == file_NoNode) = true)
    (hm : ∀ ns : List Int, ns.length ≤ 63 → ∃ g, f_law [.scr ns] [] = .ok (.bl true) g) :
    ∃ fd : FuncData, (∀ (s : Shared) (v : Value), BindsTo s fd ⟨[v], []⟩ [("_law_script", v)]) ∧ ∀ base : Heap, K.In base → base.Ns mainGlobals mg → FnOk PP w K mg base (L2.CX PP w) 8 fa fd ["_law_script"] (spL 63 K) := by
  have e : A_law = fa := by
    have e := (PySem.W.mg_of X G r216).symm.trans hfa
    cases e
    rfl
  subst e
  have F : Fx PP w K mg ⟨A_draw, A_rows, A_word, A_words, A_BadOutcome, A_LoopError, A_is_name, A_BadName, A_check_name, A_Chart_init, A_Chart, A_TooLarge, A_Chart_setitem, A_part, A_order, A_NoNode, A_Chart_start_set, A_Chart_start_prop, A_Chart_start_at, A_Chart_edges, A_edge_table, A_due, A_Chart_len, A_Chart_iter, A_law⟩ := {
    n_list := PySem.W.mg_none_of X G r0,
    n_len := PySem.W.mg_none_of X G r1,
    n_abs := PySem.W.mg_none_of X G r2,
    n_int := PySem.W.mg_none_of X G r3,
    f_draw := funX r4 r5 r6 fun _ _ _ _ _ _ us hl => match us, hl with | [_, _], _ => rfl,
    g_draw := PySem.W.mg_of X G r7,
    n_min := PySem.W.mg_none_of X G r8,
    n_range := PySem.W.mg_none_of X G r9,
    f_rows := funX r10 r11 r12 fun _ _ _ _ _ _ us hl => match us, hl with | [_, _, _], _ => rfl,
    g_rows := PySem.W.mg_of X G r13,
    f_word := funX r14 r15 r16 fun _ _ _ _ _ _ us hl => match us, hl with | [_], _ => rfl,
    g_word := PySem.W.mg_of X G r17,
    f_words := funX r18 r19 r20 fun _ _ _ _ _ _ us hl => match us, hl with | [_, _], _ => rfl,
    g_words := PySem.W.mg_of X G r21,
    g_MOST_OUTCOMES := ⟨_, PySem.W.mg_of X G r22⟩,
    x_BadOutcome := excA1 (st := inClass (top 4) 0) X G r24 r25 r26 r27 r28 r29 r30 r31 r32 r33 r34 r35 r36 r37 r38 r39 r40 r41 r42 r43 r44 r45 r46 r47 r48 r49 r50 r51 r52 r53 rfl r54 rfl rfl rfl rfl (by decide +kernel) rfl rfl rfl (by decide +kernel) (fun us hl => match us, hl with | [_, _], _ => rfl) (by decide +kernel) (by decide) (by decide) (fun _ _ _ _ _ _ => ⟨_, rfl⟩),
    g_FIRST := ⟨_, PySem.W.mg_of X G r55⟩,
    g_OTHERS := ⟨_, PySem.W.mg_of X G r56⟩,
    n_all := PySem.W.mg_none_of X G r57,
    f_is_name := funX r58 r59 r60 fun _ _ _ _ _ _ us hl => match us, hl with | [_], _ => rfl,
    g_is_name := PySem.W.mg_of X G r61,
    x_BadName := excA1 (st := inClass (top 3) 0) X G r62 r63 r64 r65 r66 r67 r68 r69 r70 r71 r72 r73 r74 r75 r76 r39 r40 r77 r78 r79 r80 r81 r82 r47 r48 r49 r83 r51 r52 r84 rfl r85 rfl rfl rfl rfl (by decide +kernel) rfl rfl rfl (by decide +kernel) (fun us hl => match us, hl with | [_, _], _ => rfl) (by decide +kernel) (by decide) (by decide) (fun _ _ _ _ _ _ => ⟨_, rfl⟩),
    f_check_name := funX r86 r87 r88 fun _ _ _ _ _ _ us hl => match us, hl with | [_], _ => rfl,
    g_check_name := PySem.W.mg_of X G r89,
    f_Chart_init := funX r90 r91 r92 fun _ _ _ _ _ _ us hl => match us, hl with | [_, _, _], _ => rfl,
    mk_Chart := ⟨r93, r94, r95, r96⟩,
    cw_Chart := ⟨⟨r105, r106, r107, r108⟩, (forall_cons r104 (forall_cons r103 (forall_cons r102 (forall_cons r101 (forall_cons r100 (forall_cons r99 (forall_cons r98 (forall_cons r97 forall_nil))))))))⟩,
    g_Chart := PySem.W.mg_of X G r109,
    k_Chart_MOST := ⟨_, r110, ⟨_, rfl⟩, r111, by decide +kernel⟩,
    x_TooLarge := excA1 (st := inClass (top 7) 0) X G r112 r113 r114 r115 r116 r117 r118 r119 r120 r121 r122 r123 r124 r125 r126 r39 r40 r127 r128 r129 r130 r131 r132 r47 r48 r49 r133 r51 r52 r134 rfl r135 rfl rfl rfl rfl (by decide +kernel) rfl rfl rfl (by decide +kernel) (fun us hl => match us, hl with | [_, _], _ => rfl) (by decide +kernel) (by decide) (by decide) (fun _ _ _ _ _ _ => ⟨_, rfl⟩),
    f_Chart_setitem := funX r136 r137 r138 fun _ _ _ _ _ _ us hl => match us, hl with | [_, _, _], _ => rfl,
    s_Chart_setitem := ⟨r139, r140, r141, r142⟩,
    f_part := funX r143 r144 r145 fun _ _ _ _ _ _ us hl => match us, hl with | [_, _, _], _ => rfl,
    g_part := PySem.W.mg_of X G r146,
    f_order := funX r147 r148 r149 fun _ _ _ _ _ _ us hl => match us, hl with | [_], _ => rfl,
    g_order := PySem.W.mg_of X G r150,
    x_NoNode := excA1 (st := inClass (top 5) 0) X G r151 r152 r153 r154 r155 r156 r157 r158 r159 r160 r161 r162 r163 r164 r165 r39 r40 r166 r167 r168 r169 r170 r171 r47 r48 r49 r172 r51 r52 r173 rfl r174 rfl rfl rfl rfl (by decide +kernel) rfl rfl rfl (by decide +kernel) (fun us hl => match us, hl with | [_, _], _ => rfl) (by decide +kernel) (by decide) (by decide) (fun _ _ _ _ _ _ => ⟨_, rfl⟩),
    f_Chart_start_set := funX r175 r176 r177 fun _ _ _ _ _ _ us hl => match us, hl with | [_, _], _ => rfl,
    w_Chart_start_set := ⟨r108, r107, r180, r181, _, _, r179⟩,
    f_Chart_start_at := funX r182 r183 r184 fun _ _ _ _ _ _ us hl => match us, hl with | [_, _], _ => rfl,
    m_Chart_start_at := ⟨r185, r186, r184⟩,
    f_Chart_edges := funX r187 r188 r189 fun _ _ _ _ _ _ us hl => match us, hl with | [_], _ => rfl,
    m_Chart_edges := ⟨r190, r191, r189⟩,
    f_edge_table := funX r192 r193 r194 fun _ _ _ _ _ _ us hl => match us, hl with | [_], _ => rfl,
    g_edge_table := PySem.W.mg_of X G r195,
    n_isinstance := PySem.W.mg_none_of X G r196,
    n_str := PySem.W.mg_none_of X G r197,
    f_due := funX r198 r199 r200 fun _ _ _ _ _ _ us hl => match us, hl with | [_, _, _], _ => rfl,
    g_due := PySem.W.mg_of X G r201,
    f_Chart_len := funX r202 r203 r204 fun _ _ _ _ _ _ us hl => match us, hl with | [_], _ => rfl,
    s_Chart_len := ⟨r205, r206, r207⟩,
    n_iter := PySem.W.mg_none_of X G r208,
    it_Chart := iterC_of r210 r211 r209 r212 rfl rfl rfl rfl rfl rfl fun _ => rfl,
    f_law := funX r213 r214 r215 fun _ _ _ _ _ _ us hl => match us, hl with | [_], _ => rfl }
  exact ⟨_, fun s v => .of_eq rfl, fun base _ _ => law_end rfl (o_law (base := base) F (fun_mk r213 r214 r215)) hm⟩
end K12
end WL
end
open PySem PySem.W PyProof.Rows
set_option maxRecDepth 100000 in
set_option maxHeartbeats 0 in
theorem PySem.Challenge.cw_strikeloops_k12_edge_tables_holds : PySem.Challenge.rw_strikeloops_k12_edge_tables.Holds := by
  w_on; o_law; k_head; (case hw => w_witness2)
  k_fill
  refine WL.law_walk (l := PySem.Challenge.rw_strikeloops_k12_edge_tables) (n := 63) (k := 8) (x := "_law_script") rfl (by decide) rfl ⟨rfl, by decide, by decide⟩ (fun w h Y => PySem.W.kIn_of Y) ?F
  case F =>
    intro w mg fa h KX G hmg
    refine' WL.K12.fx_mk KX G hmg ?r7 ?r13 ?r17 ?r21 ?r22 ?r23 ?r24 ?r55 ?r56 ?r61 ?r62 ?r89 ?r109 ?r112 ?r146 ?r150 ?r151 ?r195 ?r201 ?r216 ?r30 ?r68 ?r94 ?r110 ?r118 ?r139 ?r157 ?r178 ?r185 ?r190 ?r205 ?r210 ?r179 ?r4 ?r10 ?r14 ?r18 ?r25 ?r41 ?r58 ?r63 ?r77 ?r86 ?r90 ?r113 ?r127 ?r136 ?r143 ?r147 ?r152 ?r166 ?r175 ?r182 ?r187 ?r192 ?r198 ?r202 ?r209 ?r213 ?r5 ?r6 ?r11 ?r12 ?r15 ?r16 ?r19 ?r20 ?r42 ?r43 ?r45 ?r59 ?r60 ?r78 ?r79 ?r81 ?r87 ?r88 ?r91 ?r92 ?r128 ?r129 ?r131 ?r137 ?r138 ?r144 ?r145 ?r148 ?r149 ?r167 ?r168 ?r170 ?r176 ?r177 ?r183 ?r184 ?r188 ?r189 ?r193 ?r194 ?r199 ?r200 ?r203 ?r204 ?r212 ?r214 ?r215 ?r0 ?r1 ?r2 ?r3 ?r8 ?r9 ?r26 ?r27 ?r28 ?r29 ?r31 ?r32 ?r33 ?r34 ?r35 ?r36 ?r37 ?r38 ?r39 ?r40 ?r44 ?r46 ?r47 ?r48 ?r49 ?r50 ?r51 ?r52 ?r53 ?r57 ?r64 ?r65 ?r66 ?r67 ?r69 ?r70 ?r71 ?r72 ?r73 ?r74 ?r75 ?r76 ?r80 ?r82 ?r83 ?r84 ?r93 ?r95 ?r96 ?r97 ?r98 ?r99 ?r100 ?r101 ?r102 ?r103 ?r104 ?r105 ?r106 ?r107 ?r108 ?r111 ?r114 ?r115 ?r116 ?r117 ?r119 ?r120 ?r121 ?r122 ?r123 ?r124 ?r125 ?r126 ?r130 ?r132 ?r133 ?r134 ?r140 ?r141 ?r142 ?r153 ?r154 ?r155 ?r156 ?r158 ?r159 ?r160 ?r161 ?r162 ?r163 ?r164 ?r165 ?r169 ?r171 ?r172 ?r173 ?r180 ?r181 ?r186 ?r191 ?r196 ?r197 ?r206 ?r207 ?r208 ?r211 ?r54 ?r85 ?r135 ?r174 WL.K12.law_true
    (case r7 => k_is)
    (case r13 => k_is)
    (case r17 => k_is)
    (case r21 => k_is)
    (case r22 => k_is)
    (case r23 => k_is)
    (case r24 => k_is)
    (case r55 => k_is)
    (case r56 => k_is)
    (case r61 => k_is)
    (case r62 => k_is)
    (case r89 => k_is)
    (case r109 => k_is)
    (case r112 => k_is)
    (case r146 => k_is)
    (case r150 => k_is)
    (case r151 => k_is)
    (case r195 => k_is)
    (case r201 => k_is)
    (case r216 => k_is)
    (case r30 => k_is)
    (case r68 => k_is)
    (case r94 => k_is)
    (case r110 => k_is)
    (case r118 => k_is)
    (case r139 => k_is)
    (case r157 => k_is)
    (case r178 => k_is)
    (case r185 => k_is)
    (case r190 => k_is)
    (case r205 => k_is)
    (case r210 => k_is)
    (case r179 => k_is)
    (case r4 => k_is)
    (case r10 => k_is)
    (case r14 => k_is)
    (case r18 => k_is)
    (case r25 => k_is)
    (case r41 => k_is)
    (case r58 => k_is)
    (case r63 => k_is)
    (case r77 => k_is)
    (case r86 => k_is)
    (case r90 => k_is)
    (case r113 => k_is)
    (case r127 => k_is)
    (case r136 => k_is)
    (case r143 => k_is)
    (case r147 => k_is)
    (case r152 => k_is)
    (case r166 => k_is)
    (case r175 => k_is)
    (case r182 => k_is)
    (case r187 => k_is)
    (case r192 => k_is)
    (case r198 => k_is)
    (case r202 => k_is)
    (case r209 => k_is)
    (case r213 => k_is)
    (case r5 => k_is)
    (case r6 => k_is)
    (case r11 => k_is)
    (case r12 => k_is)
    (case r15 => k_is)
    (case r16 => k_is)
    (case r19 => k_is)
    (case r20 => k_is)
    (case r42 => k_is)
    (case r43 => k_is)
    (case r45 => k_is)
    (case r59 => k_is)
    (case r60 => k_is)
    (case r78 => k_is)
    (case r79 => k_is)
    (case r81 => k_is)
    (case r87 => k_is)
    (case r88 => k_is)
    (case r91 => k_is)
    (case r92 => k_is)
    (case r128 => k_is)
    (case r129 => k_is)
    (case r131 => k_is)
    (case r137 => k_is)
    (case r138 => k_is)
    (case r144 => k_is)
    (case r145 => k_is)
    (case r148 => k_is)
    (case r149 => k_is)
    (case r167 => k_is)
    (case r168 => k_is)
    (case r170 => k_is)
    (case r176 => k_is)
    (case r177 => k_is)
    (case r183 => k_is)
    (case r184 => k_is)
    (case r188 => k_is)
    (case r189 => k_is)
    (case r193 => k_is)
    (case r194 => k_is)
    (case r199 => k_is)
    (case r200 => k_is)
    (case r203 => k_is)
    (case r204 => k_is)
    (case r212 => k_is)
    (case r214 => k_is)
    (case r215 => k_is)
    (case r0 => k_is)
    (case r1 => k_is)
    (case r2 => k_is)
    (case r3 => k_is)
    (case r8 => k_is)
    (case r9 => k_is)
    (case r26 => k_is)
    (case r27 => k_is)
    (case r28 => k_is)
    (case r29 => k_is)
    (case r31 => k_is)
    (case r32 => k_is)
    (case r33 => k_is)
    (case r34 => k_is)
    (case r35 => k_is)
    (case r36 => k_is)
    (case r37 => k_is)
    (case r38 => ks_is)
    (case r39 => k_is)
    (case r40 => k_is)
    (case r44 => rfl)
    (case r46 => k_is)
    (case r47 => k_is)
    (case r48 => k_is)
    (case r49 => k_is)
    (case r50 => k_is)
    (case r51 => k_is)
    (case r52 => k_is)
    (case r53 => k_is)
    (case r57 => k_is)
    (case r64 => k_is)
    (case r65 => k_is)
    (case r66 => k_is)
    (case r67 => k_is)
    (case r69 => k_is)
    (case r70 => k_is)
    (case r71 => k_is)
    (case r72 => k_is)
    (case r73 => k_is)
    (case r74 => k_is)
    (case r75 => k_is)
    (case r76 => ks_is)
    (case r80 => rfl)
    (case r82 => k_is)
    (case r83 => k_is)
    (case r84 => k_is)
    (case r93 => k_is)
    (case r95 => k_is)
    (case r96 => k_is)
    (case r97 => k_is)
    (case r98 => k_is)
    (case r99 => k_is)
    (case r100 => k_is)
    (case r101 => k_is)
    (case r102 => k_is)
    (case r103 => k_is)
    (case r104 => k_is)
    (case r105 => k_is)
    (case r106 => k_is)
    (case r107 => k_is)
    (case r108 => k_is)
    (case r111 => k_is)
    (case r114 => k_is)
    (case r115 => k_is)
    (case r116 => k_is)
    (case r117 => k_is)
    (case r119 => k_is)
    (case r120 => k_is)
    (case r121 => k_is)
    (case r122 => k_is)
    (case r123 => k_is)
    (case r124 => k_is)
    (case r125 => k_is)
    (case r126 => ks_is)
    (case r130 => rfl)
    (case r132 => k_is)
    (case r133 => k_is)
    (case r134 => k_is)
    (case r140 => k_is)
    (case r141 => k_is)
    (case r142 => k_is)
    (case r153 => k_is)
    (case r154 => k_is)
    (case r155 => k_is)
    (case r156 => k_is)
    (case r158 => k_is)
    (case r159 => k_is)
    (case r160 => k_is)
    (case r161 => k_is)
    (case r162 => k_is)
    (case r163 => k_is)
    (case r164 => k_is)
    (case r165 => ks_is)
    (case r169 => rfl)
    (case r171 => k_is)
    (case r172 => k_is)
    (case r173 => k_is)
    (case r180 => k_is)
    (case r181 => k_is)
    (case r186 => k_is)
    (case r191 => k_is)
    (case r196 => k_is)
    (case r197 => k_is)
    (case r206 => k_is)
    (case r207 => k_is)
    (case r208 => k_is)
    (case r211 => k_is)
    (case r54 => first | rfl | decide +kernel)
    (case r85 => first | rfl | decide +kernel)
    (case r135 => first | rfl | decide +kernel)
    (case r174 => first | rfl | decide +kernel)
