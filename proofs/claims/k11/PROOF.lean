import PyProof.Rows.All
import HandS.ForMost
import HandS.ForExc
import HandS.Wide
import HandS.WideBits
import HandS.Style
import KE.SortData
import HandS.IsInst
import HandS.DeepEq
import HandS.ExcIs
import HandS.ExcOwn
import HandS.Deep
import HandS.Dict
import HandS.More
import HandS.WordsDict
import HandS.SetKeys
import HandS.Conv
import HandS.SortKw
import HandS.WordsExc
import HandS.EndBits
import PyProof.Rows.All
import PySem.Challenge.RW_rimread_k11_ends_and_corners
set_option Elab.async false
set_option linter.all false
set_option maxRecDepth 100000
set_option maxHeartbeats 4000000
namespace Rim
open PySem PySem.Spec PyProof.Rows L2

/-! ### trees of data: frozen data, owned lists, tuples, dicts -/
inductive O where
  | fz (d : PyData)
  | lst (os : List O)
  | tup (os : List O)
  | dk (kvs : List (Key × O))
  | dt (kvs : List (List Key × O))

def keyD : Key → PyData
  | .inl i => .int i
  | .inr s => .str s
def keyTD (ks : List Key) : PyData := .tuple (ks.map keyD)

mutual
def er : O → PyData
  | .fz d => d
  | .lst os => .list (ers os)
  | .tup os => .tuple (ers os)
  | .dk kvs => .dict (erk kvs)
  | .dt kvs => .dict (ert kvs)
def ers : List O → List PyData
  | [] => []
  | o :: os => er o :: ers os
def erk : List (Key × O) → List (PyData × PyData)
  | [] => []
  | (k, o) :: r => (keyD k, er o) :: erk r
def ert : List (List Key × O) → List (PyData × PyData)
  | [] => []
  | (k, o) :: r => (keyTD k, er o) :: ert r
end

abbrev AS := Addr → Prop
/-- a tuple that stands in the heap -/
def TpX (H : Hp) (a : Addr) (xs : List V) : Prop := H a = some (.tup xs)
theorem TpX.sq {K : PySem.W.Frag} {H : Hp} {a : Addr} {xs : List V} (h : TpX H a xs) : SqT K H a xs := .inl (.inl h)

/-! ### frozen data in a heap: Z the frozen lists and dicts, H the whole (its tuples never change) -/
mutual
inductive RD (K : PySem.W.Frag) (Z H : Hp) : V → PyData → Prop
  | non : RD K Z H .non .none
  | bl (b : Bool) : RD K Z H (.bl b) (.bool b)
  | int (i : Int) : RD K Z H (.int i) (.int i)
  | str (x : Str) : RD K Z H (.str x) (.str x)
  | lst {a : Addr} {xs : List V} {ds : List PyData} : SqL K Z a xs → RDs K Z H xs ds → RD K Z H (.ref a) (.list ds)
  | tup {a : Addr} {xs : List V} {ds : List PyData} : TpX H a xs → RDs K Z H xs ds → RD K Z H (.ref a) (.tuple ds)
  | dk {a : Addr} {kvs : List (Key × V)} {ds : List (PyData × PyData)} : Z a = some (.dK kvs) → RDk K Z H kvs ds → RD K Z H (.ref a) (.dict ds)
  | dt {a : Addr} {kvs : List (List Key × V)} {ds : List (PyData × PyData)} : Z a = some (.dT kvs) → RDt K Z H kvs ds → RD K Z H (.ref a) (.dict ds)
  | lk {a : Addr} {od : Obj} {kvs : List (Key × V)} {ds : List (PyData × PyData)} : Z a = some (.frz od (.dK kvs)) → RDk K Z H kvs ds → RD K Z H (.ref a) (.dict ((.none, .bool true) :: ds))
  | exc {a D : Addr} {oe : Obj} {c : Str} : Z a = some (.ext fun h => h.get? a = some oe) → PySem.W.nsIn K mainGlobals c = some (some (.ref D)) → oe.cls = .ref D → oe.dict = none → (∃ vs, oe.data = .fields vs) → RD K Z H (.ref a) (.dict [(.none, .str c)])
inductive RDs (K : PySem.W.Frag) (Z H : Hp) : List V → List PyData → Prop
  | nil : RDs K Z H [] []
  | cons {v : V} {vs : List V} {d : PyData} {ds : List PyData} : RD K Z H v d → RDs K Z H vs ds → RDs K Z H (v :: vs) (d :: ds)
inductive RDk (K : PySem.W.Frag) (Z H : Hp) : List (Key × V) → List (PyData × PyData) → Prop
  | nil : RDk K Z H [] []
  | cons {k : Key} {v : V} {vs : List (Key × V)} {d : PyData} {ds : List (PyData × PyData)} : RD K Z H v d → RDk K Z H vs ds → RDk K Z H ((k, v) :: vs) ((keyD k, d) :: ds)
inductive RDt (K : PySem.W.Frag) (Z H : Hp) : List (List Key × V) → List (PyData × PyData) → Prop
  | nil : RDt K Z H [] []
  | cons {k : List Key} {v : V} {vs : List (List Key × V)} {d : PyData} {ds : List (PyData × PyData)} : RD K Z H v d → RDt K Z H vs ds → RDt K Z H ((k, v) :: vs) ((keyTD k, d) :: ds)
end

/-- heaps: what grows -/
def Ex (H H' : Hp) : Prop := ∀ a o, H a = some o → H' a = some o
theorem Ex.refl (H : Hp) : Ex H H := fun _ _ h => h
theorem Ex.trans {H H1 H2 : Hp} (a : Ex H H1) (b : Ex H1 H2) : Ex H H2 := fun x o h => b x o (a x o h)
/-- tuples stay -/
def Tx (K : PySem.W.Frag) (H H' : Hp) : Prop := ∀ a xs, TpX H a xs → TpX H' a xs

section
variable {K : PySem.W.Frag} {Z Z' H H' : Hp}
theorem rd_ex {a : Addr} {u : HO} (e : Ex Z Z') (h : Rd Z a u) : Rd Z' a u := by
  rcases h with h | ⟨o, h⟩
  · exact .inl (e _ _ h)
  · exact .inr ⟨o, e _ _ h⟩
theorem sqL_ex {a : Addr} {xs : List V} (e : Ex Z Z') (h : SqL K Z a xs) : SqL K Z' a xs := by
  rcases h with (h | ⟨o, h⟩) | h
  · exact .inl (.inl (e _ _ h))
  · exact .inl (.inr ⟨o, e _ _ h⟩)
  · exact .inr h
theorem sqT_ex {a : Addr} {xs : List V} (e : Ex H H') (h : TpX H a xs) : TpX H' a xs := e _ _ h
theorem Tx.refl : Tx K H H := fun _ _ h => h
theorem Tx.trans {H2 : Hp} (a : Tx K H H') (b : Tx K H' H2) : Tx K H H2 := fun x o h => b x o (a x o h)
theorem Ex.tx (e : Ex H H') : Tx K H H' := fun _ _ h => sqT_ex e h
mutual
theorem RD.mono (e : Ex Z Z') (t : Tx K H H') : ∀ {v : V} {d : PyData}, RD K Z H v d → RD K Z' H' v d
  | _, _, .non => .non
  | _, _, .bl b => .bl b
  | _, _, .int i => .int i
  | _, _, .str x => .str x
  | _, _, .lst h r => .lst (sqL_ex e h) (RDs.mono e t r)
  | _, _, .tup h r => .tup (t _ _ h) (RDs.mono e t r)
  | _, _, .dk h r => .dk (e _ _ h) (RDk.mono e t r)
  | _, _, .dt h r => .dt (e _ _ h) (RDt.mono e t r)
  | _, _, .lk h r => .lk (e _ _ h) (RDk.mono e t r)
  | _, _, .exc h a b c d => .exc (e _ _ h) a b c d
theorem RDs.mono (e : Ex Z Z') (t : Tx K H H') : ∀ {v : List V} {d : List PyData}, RDs K Z H v d → RDs K Z' H' v d
  | _, _, .nil => .nil
  | _, _, .cons h r => .cons (RD.mono e t h) (RDs.mono e t r)
theorem RDk.mono (e : Ex Z Z') (t : Tx K H H') : ∀ {v : List (Key × V)} {d : List (PyData × PyData)}, RDk K Z H v d → RDk K Z' H' v d
  | _, _, .nil => .nil
  | _, _, .cons h r => .cons (RD.mono e t h) (RDk.mono e t r)
theorem RDt.mono (e : Ex Z Z') (t : Tx K H H') : ∀ {v : List (List Key × V)} {d : List (PyData × PyData)}, RDt K Z H v d → RDt K Z' H' v d
  | _, _, .nil => .nil
  | _, _, .cons h r => .cons (RD.mono e t h) (RDt.mono e t r)
end

/-! ### a tree in a heap; S bounds what it owns -/
mutual
inductive RO (K : PySem.W.Frag) (Z H : Hp) : V → O → AS → Prop
  | fz {v : V} {d : PyData} {S : AS} : RD K Z H v d → RO K Z H v (.fz d) S
  | lst {a : Addr} {xs : List V} {os : List O} {S S' : AS} : H a = some (.lst xs) → S a → ROs K Z H xs os S' → (∀ x, S' x → S x) → ¬ S' a → RO K Z H (.ref a) (.lst os) S
  | tup {a : Addr} {xs : List V} {os : List O} {S : AS} : TpX H a xs → ROs K Z H xs os S → RO K Z H (.ref a) (.tup os) S
  | dk {a : Addr} {kvs : List (Key × V)} {os : List (Key × O)} {S S' : AS} : H a = some (.dK kvs) → S a → ROk K Z H kvs os S' → (∀ x, S' x → S x) → ¬ S' a → RO K Z H (.ref a) (.dk os) S
  | dt {a : Addr} {kvs : List (List Key × V)} {os : List (List Key × O)} {S S' : AS} : H a = some (.dT kvs) → S a → ROt K Z H kvs os S' → (∀ x, S' x → S x) → ¬ S' a → RO K Z H (.ref a) (.dt os) S
inductive ROs (K : PySem.W.Frag) (Z H : Hp) : List V → List O → AS → Prop
  | nil {S : AS} : ROs K Z H [] [] S
  | cons {v : V} {vs : List V} {o : O} {os : List O} {S1 S2 S : AS} : RO K Z H v o S1 → ROs K Z H vs os S2 → (∀ x, S1 x → S x) → (∀ x, S2 x → S x) → (∀ x, S1 x → ¬ S2 x) → ROs K Z H (v :: vs) (o :: os) S
inductive ROk (K : PySem.W.Frag) (Z H : Hp) : List (Key × V) → List (Key × O) → AS → Prop
  | nil {S : AS} : ROk K Z H [] [] S
  | cons {k : Key} {v : V} {vs : List (Key × V)} {o : O} {os : List (Key × O)} {S1 S2 S : AS} : RO K Z H v o S1 → ROk K Z H vs os S2 → (∀ x, S1 x → S x) → (∀ x, S2 x → S x) → (∀ x, S1 x → ¬ S2 x) → ROk K Z H ((k, v) :: vs) ((k, o) :: os) S
inductive ROt (K : PySem.W.Frag) (Z H : Hp) : List (List Key × V) → List (List Key × O) → AS → Prop
  | nil {S : AS} : ROt K Z H [] [] S
  | cons {k : List Key} {v : V} {vs : List (List Key × V)} {o : O} {os : List (List Key × O)} {S1 S2 S : AS} : RO K Z H v o S1 → ROt K Z H vs os S2 → (∀ x, S1 x → S x) → (∀ x, S2 x → S x) → (∀ x, S1 x → ¬ S2 x) → ROt K Z H ((k, v) :: vs) ((k, o) :: os) S
end
theorem RO.up {v : V} {o : O} {S S' : AS} (h : RO K Z H v o S) (s : ∀ x, S x → S' x) : RO K Z H v o S' := by
  cases h with
  | fz h => exact .fz h
  | lst h a r b c => exact .lst h (s _ a) r (fun x q => s x (b x q)) c
  | tup h r =>
    refine .tup h ?_
    cases r with
    | nil => exact .nil
    | cons h1 h2 b c d => exact .cons h1 h2 (fun x q => s x (b x q)) (fun x q => s x (c x q)) d
  | dk h a r b c => exact .dk h (s _ a) r (fun x q => s x (b x q)) c
  | dt h a r b c => exact .dt h (s _ a) r (fun x q => s x (b x q)) c
theorem ROs.up {v : List V} {o : List O} {S S' : AS} (h : ROs K Z H v o S) (s : ∀ x, S x → S' x) : ROs K Z H v o S' := by
  cases h with
  | nil => exact .nil
  | cons h1 h2 b c d => exact .cons h1 h2 (fun x q => s x (b x q)) (fun x q => s x (c x q)) d
theorem ROk.up {v : List (Key × V)} {o : List (Key × O)} {S S' : AS} (h : ROk K Z H v o S) (s : ∀ x, S x → S' x) : ROk K Z H v o S' := by
  cases h with
  | nil => exact .nil
  | cons h1 h2 b c d => exact .cons h1 h2 (fun x q => s x (b x q)) (fun x q => s x (c x q)) d
theorem ROt.up {v : List (List Key × V)} {o : List (List Key × O)} {S S' : AS} (h : ROt K Z H v o S) (s : ∀ x, S x → S' x) : ROt K Z H v o S' := by
  cases h with
  | nil => exact .nil
  | cons h1 h2 b c d => exact .cons h1 h2 (fun x q => s x (b x q)) (fun x q => s x (c x q)) d

mutual
/-- what a tree owns is kept: it stays -/
theorem RO.stay (e : Ex Z Z') (t : Tx K H H') : ∀ {v : V} {o : O} {S : AS}, RO K Z H v o S → (∀ a u, S a → H a = some u → H' a = some u) → RO K Z' H' v o S
  | _, _, _, .fz h, _ => .fz (h.mono e t)
  | _, _, _, .lst h a r b c, k => .lst (k _ _ a h) a (ROs.stay e t r fun x u q => k x u (b x q)) b c
  | _, _, _, .tup h r, k => .tup (t _ _ h) (ROs.stay e t r k)
  | _, _, _, .dk h a r b c, k => .dk (k _ _ a h) a (ROk.stay e t r fun x u q => k x u (b x q)) b c
  | _, _, _, .dt h a r b c, k => .dt (k _ _ a h) a (ROt.stay e t r fun x u q => k x u (b x q)) b c
theorem ROs.stay (e : Ex Z Z') (t : Tx K H H') : ∀ {v : List V} {o : List O} {S : AS}, ROs K Z H v o S → (∀ a u, S a → H a = some u → H' a = some u) → ROs K Z' H' v o S
  | _, _, _, .nil, _ => .nil
  | _, _, _, .cons h r b c d, k => .cons (RO.stay e t h fun x u q => k x u (b x q)) (ROs.stay e t r fun x u q => k x u (c x q)) b c d
theorem ROk.stay (e : Ex Z Z') (t : Tx K H H') : ∀ {v : List (Key × V)} {o : List (Key × O)} {S : AS}, ROk K Z H v o S → (∀ a u, S a → H a = some u → H' a = some u) → ROk K Z' H' v o S
  | _, _, _, .nil, _ => .nil
  | _, _, _, .cons h r b c d, k => .cons (RO.stay e t h fun x u q => k x u (b x q)) (ROk.stay e t r fun x u q => k x u (c x q)) b c d
theorem ROt.stay (e : Ex Z Z') (t : Tx K H H') : ∀ {v : List (List Key × V)} {o : List (List Key × O)} {S : AS}, ROt K Z H v o S → (∀ a u, S a → H a = some u → H' a = some u) → ROt K Z' H' v o S
  | _, _, _, .nil, _ => .nil
  | _, _, _, .cons h r b c d, k => .cons (RO.stay e t h fun x u q => k x u (b x q)) (ROt.stay e t r fun x u q => k x u (c x q)) b c d
end
mutual
/-- all of a tree frozen: Z' has what it owns -/
theorem RO.frz (e : Ex Z Z') : ∀ {v : V} {o : O} {S : AS}, RO K Z H v o S → (∀ a u, S a → H a = some u → Z' a = some u) → RD K Z' H v (er o)
  | _, _, _, .fz h, _ => h.mono e Tx.refl
  | _, _, _, .lst h a r b c, k => .lst (.inl (.inl (k _ _ a h))) (ROs.frz e r fun x u q => k x u (b x q))
  | _, _, _, .tup h r, k => .tup h (ROs.frz e r k)
  | _, _, _, .dk h a r b c, k => .dk (k _ _ a h) (ROk.frz e r fun x u q => k x u (b x q))
  | _, _, _, .dt h a r b c, k => .dt (k _ _ a h) (ROt.frz e r fun x u q => k x u (b x q))
theorem ROs.frz (e : Ex Z Z') : ∀ {v : List V} {o : List O} {S : AS}, ROs K Z H v o S → (∀ a u, S a → H a = some u → Z' a = some u) → RDs K Z' H v (ers o)
  | _, _, _, .nil, _ => .nil
  | _, _, _, .cons h r b c d, k => .cons (RO.frz e h fun x u q => k x u (b x q)) (ROs.frz e r fun x u q => k x u (c x q))
theorem ROk.frz (e : Ex Z Z') : ∀ {v : List (Key × V)} {o : List (Key × O)} {S : AS}, ROk K Z H v o S → (∀ a u, S a → H a = some u → Z' a = some u) → RDk K Z' H v (erk o)
  | _, _, _, .nil, _ => .nil
  | _, _, _, .cons h r b c d, k => .cons (RO.frz e h fun x u q => k x u (b x q)) (ROk.frz e r fun x u q => k x u (c x q))
theorem ROt.frz (e : Ex Z Z') : ∀ {v : List (List Key × V)} {o : List (List Key × O)} {S : AS}, ROt K Z H v o S → (∀ a u, S a → H a = some u → Z' a = some u) → RDt K Z' H v (ert o)
  | _, _, _, .nil, _ => .nil
  | _, _, _, .cons h r b c d, k => .cons (RO.frz e h fun x u q => k x u (b x q)) (ROt.frz e r fun x u q => k x u (c x q))
end
/-- a tree as it stands, for reading -/
theorem RO.view {v : V} {o : O} {S : AS} (h : RO K Z H v o S) (zh : Ex Z H) : RD K H H v (er o) := h.frz zh fun _ _ _ q => q

/-! ### data without lists: they hang on tuples alone -/
mutual
def lf : PyData → Bool
  | .none | .bool _ | .int _ | .str _ => true
  | .list _ => false
  | .tuple ds => lfs ds
  | .dict _ => false
def lfs : List PyData → Bool
  | [] => true
  | d :: ds => lf d && lfs ds
end
theorem lfs_cons {d : PyData} {ds : List PyData} (q : lfs (d :: ds) = true) : Rim.lf d = true ∧ lfs ds = true := by simpa [lfs] using q
mutual
theorem RD.lf {Z' : Hp} : ∀ {v : V} {d : PyData}, RD K Z H v d → Rim.lf d = true → RD K Z' H v d
  | _, _, .non, _ => .non
  | _, _, .bl b, _ => .bl b
  | _, _, .int i, _ => .int i
  | _, _, .str x, _ => .str x
  | _, _, .lst h r, q => by simp [Rim.lf] at q
  | _, _, .tup h r, q => .tup h (RDs.lf r (by simpa [Rim.lf] using q))
  | _, _, .dk h r, q => by simp [Rim.lf] at q
  | _, _, .dt h r, q => by simp [Rim.lf] at q
  | _, _, .lk h r, q => by simp [Rim.lf] at q
  | _, _, .exc .., q => by simp [Rim.lf] at q
theorem RDs.lf {Z' : Hp} : ∀ {v : List V} {d : List PyData}, RDs K Z H v d → lfs d = true → RDs K Z' H v d
  | _, _, .nil, _ => .nil
  | _, _, .cons h r, q => .cons (RD.lf h (lfs_cons q).1) (RDs.lf r (lfs_cons q).2)
end
mutual
/-- all frozen leaves are without lists -/
def lfO : O → Bool
  | .fz d => lf d
  | .lst os => lfOs os
  | .tup os => lfOs os
  | .dk os => lfOk os
  | .dt os => lfOt os
def lfOs : List O → Bool
  | [] => true
  | d :: ds => lfO d && lfOs ds
def lfOk : List (Key × O) → Bool
  | [] => true
  | (_, d) :: ds => lfO d && lfOk ds
def lfOt : List (List Key × O) → Bool
  | [] => true
  | (_, d) :: ds => lfO d && lfOt ds
end
theorem lfOs_cons {d : O} {ds : List O} (q : lfOs (d :: ds) = true) : lfO d = true ∧ lfOs ds = true := by simpa [lfOs] using q
theorem lfOk_cons {k : Key} {d : O} {ds : List (Key × O)} (q : lfOk ((k, d) :: ds) = true) : lfO d = true ∧ lfOk ds = true := by simpa [lfOk] using q
theorem lfOt_cons {k : List Key} {d : O} {ds : List (List Key × O)} (q : lfOt ((k, d) :: ds) = true) : lfO d = true ∧ lfOt ds = true := by simpa [lfOt] using q
mutual
theorem RO.lf {Z' : Hp} : ∀ {v : V} {d : O} {S : AS}, RO K Z H v d S → lfO d = true → RO K Z' H v d S
  | _, _, _, .fz h, q => .fz (h.lf q)
  | _, _, _, .lst h a r b c, q => .lst h a (ROs.lf r (by simpa [lfO] using q)) b c
  | _, _, _, .tup h r, q => .tup h (ROs.lf r (by simpa [lfO] using q))
  | _, _, _, .dk h a r b c, q => .dk h a (ROk.lf r (by simpa [lfO] using q)) b c
  | _, _, _, .dt h a r b c, q => .dt h a (ROt.lf r (by simpa [lfO] using q)) b c
theorem ROs.lf {Z' : Hp} : ∀ {v : List V} {d : List O} {S : AS}, ROs K Z H v d S → lfOs d = true → ROs K Z' H v d S
  | _, _, _, .nil, _ => .nil
  | _, _, _, .cons h r b c d, q => .cons (RO.lf h (lfOs_cons q).1) (ROs.lf r (lfOs_cons q).2) b c d
theorem ROk.lf {Z' : Hp} : ∀ {v : List (Key × V)} {d : List (Key × O)} {S : AS}, ROk K Z H v d S → lfOk d = true → ROk K Z' H v d S
  | _, _, _, .nil, _ => .nil
  | _, _, _, .cons h r b c d, q => .cons (RO.lf h (lfOk_cons q).1) (ROk.lf r (lfOk_cons q).2) b c d
theorem ROt.lf {Z' : Hp} : ∀ {v : List (List Key × V)} {d : List (List Key × O)} {S : AS}, ROt K Z H v d S → lfOt d = true → ROt K Z' H v d S
  | _, _, _, .nil, _ => .nil
  | _, _, _, .cons h r b c d, q => .cons (RO.lf h (lfOt_cons q).1) (ROt.lf r (lfOt_cons q).2) b c d
end
end
end Rim
namespace Rim
open PySem PySem.Spec PyProof.Rows L2

/-! ### slots -/
abbrev Env := List (Option O)
def Sor (S T : AS) : AS := fun x => S x ∨ T x

inductive RE (K : PySem.W.Frag) (Z H : Hp) : L2.St → Env → AS → Prop
  | nil {S : AS} : RE K Z H [] [] S
  | non {x : Option V} {σ : L2.St} {e : Env} {S : AS} : RE K Z H σ e S → RE K Z H (x :: σ) (none :: e) S
  | som {v : V} {σ : L2.St} {o : O} {e : Env} {S1 S2 S : AS} : RO K Z H v o S1 → RE K Z H σ e S2 → (∀ x, S1 x → S x) → (∀ x, S2 x → S x) → (∀ x, S1 x → ¬ S2 x) → RE K Z H (some v :: σ) (some o :: e) S

section
variable {K : PySem.W.Frag} {Z Z' H H' : Hp} {σ : L2.St} {e : Env} {S S' : AS}
theorem RE.up (h : RE K Z H σ e S) (s : ∀ x, S x → S' x) : RE K Z H σ e S' := by
  induction h generalizing S' with
  | nil => exact .nil
  | non _ ih => exact .non (ih s)
  | som h r b c d _ => exact .som h r (fun x q => s x (b x q)) (fun x q => s x (c x q)) d
theorem RE.len (h : RE K Z H σ e S) : σ.length = e.length := by
  induction h with
  | nil => rfl
  | non _ ih => simp [ih]
  | som _ _ _ _ _ ih => simp [ih]
theorem RE.stay (ez : Ex Z Z') (t : Tx K H H') (h : RE K Z H σ e S) (k : ∀ a u, S a → H a = some u → H' a = some u) : RE K Z' H' σ e S := by
  induction h with
  | nil => exact .nil
  | non _ ih => exact .non (ih k)
  | som h r b c d ih => exact .som (h.stay ez t fun x u q => k x u (b x q)) (ih fun x u q => k x u (c x q)) b c d
theorem RE.drop (h : RE K Z H σ e S) (i : Nat) : RE K Z H σ (e.set i none) S := by
  induction h generalizing i with
  | nil => exact .nil
  | non _ ih =>
    cases i with
    | zero => exact .non (by assumption)
    | succ i => exact .non (ih i)
  | som h r b c d ih =>
    cases i with
    | zero => exact .non (r.up c)
    | succ i => exact .som h (ih i) b c d
/-- the i-th slot, and the rest without it -/
theorem RE.at (h : RE K Z H σ e S) : ∀ {i : Nat} {o : O}, e[i]? = some (some o) → ∃ v S1 S2, σ[i]? = some (some v) ∧ RO K Z H v o S1 ∧ (∀ x, S1 x → S x) ∧ (∀ x, S2 x → S x) ∧ (∀ x, S1 x → ¬ S2 x) ∧ RE K Z H σ (e.set i none) S2 := by
  induction h with
  | nil => intro i o q; simp at q
  | non r ih =>
    intro i o q
    cases i with
    | zero => simp at q
    | succ i =>
      obtain ⟨v, S1, S2, a, b, c, d, f, g⟩ := ih (i := i) (o := o) (by simpa using q)
      exact ⟨v, S1, S2, by simpa using a, b, c, d, f, .non g⟩
  | som ho r b c d ih =>
    rename_i v0 σ0 o0 e0 T1 T2 T
    intro i o q
    cases i with
    | zero =>
      have e1 : o0 = o := by simpa using q
      subst e1
      exact ⟨v0, T1, T2, rfl, ho, b, c, d, .non r⟩
    | succ i =>
      obtain ⟨v, S1, S2, a, b', c', d', f, g⟩ := ih (i := i) (o := o) (by simpa using q)
      refine ⟨v, S1, fun x => T1 x ∨ S2 x, by simpa using a, b', fun x q => c x (c' x q), fun x q => q.elim (b x) fun z => c x (d' x z), fun x q z => ?_, ?_⟩
      · rcases z with z | z
        · exact d x z (c' x q)
        · exact f x q z
      · exact .som ho g (fun x q => .inl q) (fun x q => .inr q) fun x q z => d x q (d' x z)
/-- the i-th slot filled -/
theorem RE.set {v : V} {o : O} {S1 : AS} (h : RE K Z H σ e S) (hv : RO K Z H v o S1) (dj : ∀ x, S1 x → ¬ S x) (i : Nat) : RE K Z H (σ.set i (some v)) (e.set i (some o)) (Sor S1 S) := by
  induction h generalizing i with
  | nil => exact .nil
  | non r ih =>
    cases i with
    | zero => exact .som hv r (fun x q => .inl q) (fun x q => .inr q) dj
    | succ i => exact .non (ih dj i)
  | som ho r b c d ih =>
    cases i with
    | zero => exact .som hv r (fun x q => .inl q) (fun x q => .inr (c x q)) fun x q z => dj x q (c x z)
    | succ i =>
      refine .som ho (ih (fun x q z => dj x q (c x z)) i) (fun x q => .inr (b x q)) (fun x q => q.elim .inl fun z => .inr (c x z)) fun x q z => ?_
      rcases z with z | z
      · exact dj x z (b x q)
      · exact d x q z
theorem set_same {σ : L2.St} {i : Nat} {x : Option V} (h : σ[i]? = some x) : σ.set i x = σ := by
  induction σ generalizing i with
  | nil => rfl
  | cons y r ih =>
    cases i with
    | zero =>
      have e1 : y = x := by simpa using h
      subst e1
      rfl
    | succ i =>
      show y :: r.set i x = y :: r
      rw [ih (by simpa using h)]
theorem RE.put {v : V} {o : O} {S1 : AS} {i : Nat} (h : RE K Z H σ e S) (hi : σ[i]? = some (some v)) (hv : RO K Z H v o S1) (dj : ∀ x, S1 x → ¬ S x) : RE K Z H σ (e.set i (some o)) (Sor S1 S) := by
  have q := h.set hv dj i
  rwa [set_same hi] at q
/-- a slot forgotten, whatever stands there -/
theorem RE.forget (h : RE K Z H σ e S) (i : Nat) (x : Option V) : RE K Z H (σ.set i x) (e.set i none) S := by
  induction h generalizing i with
  | nil => exact .nil
  | non r ih =>
    cases i with
    | zero => exact .non r
    | succ i => exact .non (ih i)
  | som ho r b c d ih =>
    cases i with
    | zero => exact .non (r.up c)
    | succ i => exact .som ho (ih i) b c d
end

/-! ### the world: S what is owned here, Z what is frozen -/
structure Wd (S : AS) (Z H : Hp) : Prop where
  zh : Ex Z H
  own : ∀ a, S a → Z a = none ∧ Mut (H a)
structure Gr (S : AS) (Z H : Hp) (S' : AS) (Z' H' : Hp) : Prop where
  z : Ex Z Z'
  keep : ∀ a o, H a = some o → ¬ S a → H' a = some o
  new : ∀ a, (S' a ∨ Z' a ≠ none) → S a ∨ H a = none ∨ Z a ≠ none
section
variable {K : PySem.W.Frag} {Z Z' Z'' H H' H'' : Hp} {σ : L2.St} {e e' : Env} {S S' S'' T T' : AS}
theorem mut_tup {H : Hp} {a : Addr} {xs : List V} (h : Rd H a (.tup xs)) : ¬ Mut (H a) := by
  rcases h with h | ⟨o, h⟩
  · rw [h]; exact fun q => q
  · rw [h]; exact fun q => q
theorem Gr.refl : Gr S Z H S Z H := ⟨Ex.refl _, fun _ _ h _ => h, fun a h => h.elim .inl fun q => .inr (.inr q)⟩
theorem Gr.trans (w : Wd S' Z' H') (a : Gr S Z H S' Z' H') (b : Gr S' Z' H' S'' Z'' H'') : Gr S Z H S'' Z'' H'' := by
  have nx : ∀ x, (S' x ∨ H' x = none ∨ Z' x ≠ none) → S x ∨ H x = none ∨ Z x ≠ none := fun x h => by
    rcases h with h | h | h
    · exact a.new x (.inl h)
    · by_cases q : S x
      · exact .inl q
      · cases r : H x with
        | none => exact .inr (.inl rfl)
        | some o =>
          rw [a.keep x o r q] at h
          cases h
    · exact a.new x (.inr h)
  refine ⟨a.z.trans b.z, fun x o h hS => ?_, fun x h => nx x (b.new x h)⟩
  by_cases q : S' x
  · rcases a.new x (.inl q) with z | z | z
    · exact absurd z hS
    · rw [h] at z; cases z
    · cases r : Z x with
      | none => exact absurd r z
      | some u =>
        have e1 := a.z x u r
        rw [(w.own x q).1] at e1
        cases e1
  · exact b.keep x o (a.keep x o h hS) q
/-- owned cells are changed alone: tuples stay -/
theorem Gr.tx (w : Wd S Z H) (g : Gr S Z H S' Z' H') : Tx K H H' := fun a xs h => by
  have nS : ∀ {a : Addr}, Rd H a (.tup xs) → ¬ S a := fun {a} r q => mut_tup r (w.own a q).2
  exact g.keep a _ h (nS (.inl h))
theorem Wd.sub (w : Wd S Z H) (s : ∀ x, T x → S x) : Wd T Z H := ⟨w.zh, fun a q => w.own a (s a q)⟩
/-- fewer are owned behind -/
theorem Gr.subR (g : Gr S Z H S' Z' H') (s : ∀ x, T x → S' x) : Gr S Z H T Z' H' := ⟨g.z, g.keep, fun a h => g.new a (h.elim (fun q => .inl (s a q)) .inr)⟩
/-- more may be owned ahead, that were kept -/
theorem Gr.upL (g : Gr S Z H S' Z' H') (s : ∀ x, S x → T x) : Gr T Z H S' Z' H' := ⟨g.z, fun a o h hn => g.keep a o h fun q => hn (s a q), fun a h => (g.new a h).elim (fun q => .inl (s a q)) .inr⟩

/-! ### new cells -/
theorem Wd.new {p : Addr} {o : HO} (w : Wd S Z H) (h : H p = none) (m : Mut (some o)) : Wd (Sor S (fun x => x = p)) Z (upd H p o) := by
  have zp : Z p = none := by
    cases q : Z p with
    | none => rfl
    | some u =>
      have := w.zh p u q
      rw [h] at this
      cases this
  refine ⟨fun a u q => ?_, fun a q => ?_⟩
  · rw [upd_ne (ne_of_none (w.zh a u q) h)]
    exact w.zh a u q
  · rcases q with q | q
    · obtain ⟨q1, q2⟩ := w.own a q
      refine ⟨q1, ?_⟩
      by_cases e1 : a = p
      · rw [e1, upd_same]
        exact m
      · rw [upd_ne e1]
        exact q2
    · rw [q]
      exact ⟨zp, by rw [upd_same]; exact m⟩
theorem ex_new {p : Addr} {o : HO} (h : H p = none) : Ex H (upd H p o) := fun a u q => by
  rw [upd_ne (ne_of_none q h)]
  exact q
/-- a new tuple: nothing is owned by it -/
theorem Wd.newT {p : Addr} {o : HO} (w : Wd S Z H) (h : H p = none) : Wd S Z (upd H p o) := by
  refine ⟨fun a u q => ex_new h a u (w.zh a u q), fun a q => ?_⟩
  obtain ⟨q1, q2⟩ := w.own a q
  refine ⟨q1, ?_⟩
  have e1 : a ≠ p := fun z => by
    rw [z, h] at q2
    exact q2
  rw [upd_ne e1]
  exact q2
theorem Gr.newT {p : Addr} {o : HO} (h : H p = none) : Gr S Z H S Z (upd H p o) := ⟨Ex.refl _, fun a u q _ => ex_new h a u q, fun a q => q.elim .inl fun z => .inr (.inr z)⟩
theorem Gr.new1 {p : Addr} {o : HO} (h : H p = none) : Gr S Z H (Sor S (fun x => x = p)) Z (upd H p o) :=
  ⟨Ex.refl _, fun a u q _ => ex_new h a u q, fun a q => q.elim (fun z => z.elim .inl fun y => .inr (.inl (by rw [y]; exact h))) fun z => .inr (.inr z)⟩
/-- an owned cell is written -/
theorem Wd.put {p : Addr} {o : HO} (w : Wd S Z H) (h : S p) (m : Mut (some o)) : Wd S Z (upd H p o) := by
  have zp := (w.own p h).1
  refine ⟨fun a u q => ?_, fun a q => ?_⟩
  · have e1 : a ≠ p := fun z => by
      rw [z, zp] at q
      cases q
    rw [upd_ne e1]
    exact w.zh a u q
  · obtain ⟨q1, q2⟩ := w.own a q
    refine ⟨q1, ?_⟩
    by_cases e1 : a = p
    · rw [e1, upd_same]
      exact m
    · rw [upd_ne e1]
      exact q2
theorem Gr.put {p : Addr} {o : HO} (h : S p) : Gr S Z H S Z (upd H p o) := by
  refine ⟨Ex.refl _, fun a u q hn => ?_, fun a q => q.elim .inl fun z => .inr (.inr z)⟩
  have e1 : a ≠ p := fun z => hn (by rw [z]; exact h)
  rw [upd_ne e1]
  exact q
/-- freezing: what T owns goes into Z -/
noncomputable def frzZ (Z H : Hp) (T : AS) : Hp := fun a => open Classical in if T a then H a else Z a
theorem frzZ_in {a : Addr} (h : T a) : frzZ Z H T a = H a := by unfold frzZ; exact if_pos h
theorem frzZ_out {a : Addr} (h : ¬ T a) : frzZ Z H T a = Z a := by unfold frzZ; exact if_neg h
theorem frzZ_ex (w : Wd T Z H) : Ex Z (frzZ Z H T) := fun a o h => by
  by_cases q : T a
  · rw [(w.own a q).1] at h
    cases h
  · rw [frzZ_out q]
    exact h
/-- S without T stays owned -/
theorem Wd.frz (w : Wd S Z H) (wT : Wd T Z H) (d : ∀ x, S x → ¬ T x) : Wd S (frzZ Z H T) H := by
  refine ⟨fun a o h => ?_, fun a q => ?_⟩
  · by_cases z : T a
    · rw [frzZ_in z] at h
      exact h
    · rw [frzZ_out z] at h
      exact w.zh a o h
  · rw [frzZ_out (d a q)]
    exact w.own a q
theorem Gr.frz (w : Wd T Z H) : Gr (Sor S T) Z H S (frzZ Z H T) H := by
  refine ⟨frzZ_ex w, fun _ _ h _ => h, fun a h => ?_⟩
  rcases h with h | h
  · exact .inl (.inl h)
  · by_cases q : T a
    · exact .inl (.inr q)
    · rw [frzZ_out q] at h
      exact .inr (.inr h)
theorem frzZ_ex0 {H2 : Hp} (w : Wd T Z H) : Ex Z (frzZ Z H2 T) := fun a o h => by
  by_cases q : T a
  · rw [(w.own a q).1] at h
    cases h
  · rw [frzZ_out q]
    exact h
theorem RO.frozen {v : V} {o : O} (w : Wd T Z H) (h : RO K Z H v o T) : RD K (frzZ Z H T) H v (er o) :=
  h.frz (frzZ_ex w) fun a u q z => by rw [frzZ_in q]; exact z
end
end Rim
namespace Rim
open PySem PySem.Spec PyProof.Rows L2

/-! ### own syntax -/
inductive Bop where | add | sub | mul | fdiv | mod | pow
  deriving DecidableEq
inductive Cop where | eq | ne | lt | le | gt | ge | isn | isnt | isin | notin
  deriving DecidableEq
inductive Md where | val | lend (i : Nat) | bor | borA (i : Nat)
/-- built-ins of one argument -/
inductive Bl1 where | len | abs | int | str | sorted | list | all | tuple | min | max
  deriving DecidableEq
/-- built-in types -/
inductive Ty where | int | bool | str | list | tuple
  deriving DecidableEq
def Ty.n : Ty → String
  | .int => "int" | .bool => "bool" | .str => "str" | .list => "list" | .tuple => "tuple"
inductive Tg where
  | nm (i : Nat)
  | tp (a b : Tg)
  | tp3 (a b c : Tg)
  | tp4 (a b c d : Tg)
/-- what a method does to a list -/
inductive Mt where | append | pop | popAt | insert | reverse | clear | extend
  deriving DecidableEq
mutual
inductive E where
  | var (i : Nat)
  | mov (i : Nat)
  | int (i : Int)
  | str (s : Str)
  | bl (b : Bool)
  | non
  | bin (o : Bop) (a b : E)
  | neg (a : E)
  | cmp (o : Cop) (a b : E)
  | band (a b : E)
  | bor (a b : E)
  | not (a : E)
  | ix (a b : E)
  | sl (a : E) (lo hi : OE)
  | rev (a : E)
  | tup (es : Es)
  | lst (es : Es)
  | call (f : Str) (es : As)
  | bl1 (f : Bl1) (a : E)
  | isi (a : E) (t : Ty)
  | frz (a : E)
  | comp (elt : E) (tg : Tg) (it : It) (cnd : OE) (own : List Nat)
  | join (a b : E)
  | mut (m : Mt) (p : Pa) (es : Es)
  | lrg (a : E)
  | lrg2 (a b : E)
  | mutA (m : Mt) (i : Nat) (es : Es)
  | mm (g : Bool) (a b : E)
  | dkn
  | dtn
  | srt (a : E) (rv : Bool)
  | ixA (i : Nat) (b : E)
  | isx (a : E) (cs ex : List Str)
  | lck (a : E)
  | sdf (i : Nat) (k v : E)
  | cmpA (o : Cop) (i : Nat) (b : E)
  | lkv (i : Nat)
/-- a place that is written at -/
inductive Pa where
  | nm (i : Nat)
  | ix (p : Pa) (k : E)
inductive Es where
  | nil
  | cons (a : E) (r : Es)
inductive As where
  | nil
  | cons (m : Md) (a : E) (r : As)
inductive OE where
  | no
  | so (a : E)
inductive It where
  | seq (a : E)
  | rng1 (a : E)
  | rng2 (a b : E)
  | enum (a : E)
  | zip (a b : E)
end

/-! ### what a run says -/
inductive Rs (α : Type) where
  | ok (a : α) (e : Env)
  | ex (c : Str) (e : Env)
  | no
def Rs.bind {α β : Type} (r : Rs α) (f : α → Env → Rs β) : Rs β :=
  match r with
  | .ok a e => f a e
  | .ex c e => .ex c e
  | .no => .no
def Rs.of {α : Type} (e : Env) : Option α → Rs α
  | some a => .ok a e
  | none => .no
inductive FR where
  | ok (o : O) (ps : Env)
  | ex (c : Str) (ps : Env)
  | no
abbrev Fns := Str → List O → FR

def isFz : O → Bool
  | .fz _ => true
  | _ => false
/-- all frozen: their data -/
def fzs : List O → Option (List PyData)
  | [] => some []
  | .fz d :: r => (fzs r).map (d :: ·)
  | _ :: _ => none
/-- a list's items as data that may be shared -/
def listOf : O → Option (List PyData)
  | .fz (.list ds) => some ds
  | .lst os => fzs os
  | _ => none
def mkTup (os : List O) : O := match fzs os with
  | some ds => .fz (.tuple ds)
  | none => .tup os

mutual
/-- a place: a name, an item of a place -/
def pl : E → Bool
  | .var _ => true
  | .ix a b => pl a && qt b
  | _ => false
/-- quiet: nothing is called, nothing is moved -/
def qt : E → Bool
  | .var _ | .int _ | .str _ | .bl _ | .non => true
  | .mov _ => false
  | .bin _ a b => qt a && qt b
  | .neg a => qt a
  | .cmp _ a b => qt a && qt b
  | .band a b => qt a && qt b
  | .bor a b => qt a && qt b
  | .not a => qt a
  | .ix a b => qt a && qt b
  | .sl a lo hi => qt a && qtO lo && qtO hi
  | .rev a => qt a
  | .tup es => qts es
  | .lst es => qts es
  | .call _ _ => false
  | .bl1 _ a => qt a
  | .isi a _ => qt a
  | .frz _ => false
  | .comp _ _ _ _ _ => false
  | .join a b => qt a && qt b
  | .mut _ _ _ => false
  | .lrg a => qt a
  | .lrg2 a b => qt a && qt b
  | .mutA _ _ _ => false
  | .mm _ a b => qt a && qt b
  | .srt _ _ => false
  | .ixA _ _ => false
  | .isx a _ _ => qt a
  | .lck _ => false
  | .sdf _ _ _ => false
  | .cmpA _ _ _ => false
  | .lkv _ => false
  | .dkn => true
  | .dtn => true
def qts : Es → Bool
  | .nil => true
  | .cons a r => qt a && qts r
def qtO : OE → Bool
  | .no => true
  | .so a => qt a
def qtA : As → Bool
  | .nil => true
  | .cons .val a r => qt a && qtA r
  | .cons (.lend _) _ r => false
  | .cons (.borA _) _ r => false
  | .cons .bor a r => qt a && qtA r
end

def tgS : Tg → List Nat
  | .nm i => [i]
  | .tp a b => tgS a ++ tgS b
  | .tp3 a b c => tgS a ++ (tgS b ++ tgS c)
  | .tp4 a b c d => tgS a ++ (tgS b ++ (tgS c ++ tgS d))
/-- may be asked as a test -/
def tokB : E → Bool
  | .frz _ => false
  | .lck _ => false
  | .not a => tokB a
  | .band a b => tokB a && tokB b
  | .bor a b => tokB a && tokB b
  | _ => true
/-! ### operations on data -/
def strRoom (n : Nat) : Bool := Nat.ble n sizeLine
def cmulB (i j : Int) : Bool := Nat.ble (Builtin.Int.intBits i + Builtin.Int.intBits j) 134217728
def cdivB (j : Int) : Bool := decide (0 < j) && decide (j.natAbs.log2 < 9000)
def cdivN (j : Int) : Bool := decide (j < 0) && decide (j.natAbs.log2 < 9000)
def cpowB (i j : Int) : Bool := decide (0 ≤ j) && decide (j ≤ 1000000) && decide (i.natAbs < 2 ^ 64)
def strMul (s : Str) (k : Nat) : Str := ⟨(List.replicate k s.cps.toList).flatten.toArray⟩
def binO (op : Bop) (a b : O) : Option O :=
  match op, a, b with
  | .add, .fz (.int i), .fz (.int j) => some (.fz (.int (i + j)))
  | .sub, .fz (.int i), .fz (.int j) => some (.fz (.int (i - j)))
  | .mul, .fz (.int i), .fz (.int j) => if cmulB i j then some (.fz (.int (i * j))) else none
  | .mul, .fz (.str x), .fz (.int j) => if Nat.ble j.natAbs 1 then some (.fz (.str (if j < 1 then Str.empty else x))) else if decide (1 < j) && decide (j < 1000) && decide (0 < x.length) && Nat.ble (x.length * j.toNat) 1000 then some (.fz (.str (strMul x j.toNat))) else none
  | .fdiv, .fz (.int i), .fz (.int j) => if cdivB j then some (.fz (.int (i / j))) else if cdivN j then some (.fz (.int (i.fdiv j))) else none
  | .mod, .fz (.int i), .fz (.int j) => if decide (0 < j) then some (.fz (.int (i % j))) else none
  | .pow, .fz (.int i), .fz (.int j) => if cpowB i j then some (.fz (.int (i ^ j.toNat))) else none
  | .add, .fz (.str x), .fz (.str y) => if strRoom (x.length + y.length) then some (.fz (.str (x ++ y))) else none
  | .add, .fz (.tuple xs), .fz (.tuple ys) => if !xs.isEmpty && !ys.isEmpty && strRoom (xs.length + ys.length) then some (.fz (.tuple (xs ++ ys))) else none
  | .add, a, b => match listOf a, listOf b with
    | some xs, some ys => if strRoom (xs.length + ys.length) then some (.lst ((xs ++ ys).map .fz)) else none
    | _, _ => none
  | _, _, _ => none
def negO : O → Option O
  | .fz (.int i) => some (.fz (.int (-i)))
  | _ => none
def keyOf : PyData → Option Key
  | .int i => some (.inl i)
  | .str s => some (.inr s)
  | _ => none
def keysO : List PyData → Option (List Key)
  | [] => some []
  | d :: r => match keyOf d, keysO r with
    | some k, some ks => some (k :: ks)
    | _, _ => none
def keyTO : PyData → Option (List Key)
  | .tuple ds => keysO ds
  | _ => none
section
variable {κ α : Type} [DecidableEq κ]
def get1 : List (κ × α) → κ → Option α
  | [], _ => none
  | (k', o) :: r, k => if k' = k then some o else get1 r k
def put1 : List (κ × α) → κ → α → List (κ × α)
  | [], k, o => [(k, o)]
  | (k', o') :: r, k, o => if k' = k then (k', o) :: r else (k', o') :: put1 r k o
end
/-- a frozen dict's value -/
def fget : List (PyData × PyData) → Key → Option PyData
  | [], _ => none
  | (kd, d) :: r, k => if keyOf kd = some k then some d else fget r k
def fgetT : List (PyData × PyData) → List Key → Option PyData
  | [], _ => none
  | (kd, d) :: r, k => if keyTO kd = some k then some d else fgetT r k
def txtOf : List PyData → Option (List Str)
  | [] => some []
  | .str s :: r => (txtOf r).map (s :: ·)
  | _ :: _ => none
/-- whether a key is in a dict -/
def dinO (x : PyData) : O → Option Bool
  | .dk kvs => (keyOf x).map fun k => (get1 kvs k).isSome
  | .dt kvs => (keyTO x).map fun k => (get1 kvs k).isSome
  | .fz (.dict ((kd, d) :: r)) => match keyOf kd, keyTO kd with
    | some _, _ => (keyOf x).map fun k => (fget ((kd, d) :: r) k).isSome
    | none, some _ => (keyTO x).map fun k => (fgetT ((kd, d) :: r) k).isSome
    | none, none => (match kd, d with
      | .none, .bool true => (keyOf x).map fun k => (fget r k).isSome
      | _, _ => none)
  | _ => none
def scalD : PyData → Bool
  | .none | .bool _ | .int _ | .str _ => true
  | _ => false
def isNonD : PyData → Bool
  | .none => true
  | _ => false
def cmpO (op : Cop) (a b : O) : Option Bool :=
  match op, er a, er b with
  | .eq, .int i, .int j => some (decide (i = j))
  | .ne, .int i, .int j => some (!decide (i = j))
  | .eq, .str i, .str j => some (decide (i = j))
  | .ne, .str i, .str j => some (!decide (i = j))
  | .eq, x, y => if SeqAt.shaped x && SeqAt.shaped y then some (PyData.eqv x y) else none
  | .ne, x, y => if SeqAt.shaped x && SeqAt.shaped y then some (!PyData.eqv x y) else none
  | .lt, .int i, .int j => some (decide (i < j))
  | .le, .int i, .int j => some (decide (i ≤ j))
  | .gt, .int i, .int j => some (decide (j < i))
  | .ge, .int i, .int j => some (decide (j ≤ i))
  | .isn, x, .none => some (isNonD x)
  | .isnt, x, .none => some (!isNonD x)
  | .isin, x, .list ys => if SeqAt.shaped x && SeqAt.shaped (.list ys) then some (ys.any fun z => PyData.eqv z x) else none
  | .notin, x, .list ys => if SeqAt.shaped x && SeqAt.shaped (.list ys) then some (!ys.any fun z => PyData.eqv z x) else none
  | .isin, .str s, .tuple ys => (txtOf ys).map fun ss => ss.any fun t => t == s
  | .notin, .str s, .tuple ys => (txtOf ys).map fun ss => !ss.any fun t => t == s
  | .isin, x, .dict _ => dinO x b
  | .notin, x, .dict _ => (dinO x b).map fun r => !r
  | _, _, _ => none
def seqO (a : O) (k : PyData) : Option O :=
  match a, k with
  | .fz (.list ds), .int i => (atI ds i).map .fz
  | .fz (.tuple ds), .int i => (atI ds i).map .fz
  | .lst os, .int i => atI os i
  | .tup os, .int i => atI os i
  | .fz (.str s), .int i => if strRoom s.length then (atI s.cps.toList i).map fun c => .fz (.str ⟨#[c]⟩) else none
  | _, _ => none
def dictO (a : O) (k : PyData) : Option O :=
  match a with
  | .dk kvs => (keyOf k).bind fun k => get1 kvs k
  | .dt kvs => (keyTO k).bind fun k => get1 kvs k
  | .fz (.dict ds) => (match keyOf k with
    | some k => fget ds k
    | none => (keyTO k).bind fun k => fgetT ds k).map .fz
  | _ => none
def itemO (a : O) (k : PyData) : Option O := match seqO a k with
  | some o => some o
  | none => dictO a k
def cutD {α : Type} (xs : List α) (lo hi : Option Int) : List α := (xs.drop (HT.sIx xs.length 0 lo)).take (HT.sIx xs.length xs.length hi - HT.sIx xs.length 0 lo)
def sliceO (a : O) (lo hi : Option Int) : Option O :=
  match a with
  | .fz (.str s) => if strRoom s.length then some (.fz (.str ⟨(cutD s.cps.toList lo hi).toArray⟩)) else none
  | a => match listOf a with
    | some ds => some (.lst ((cutD ds lo hi).map .fz))
    | none => none
/-- isinstance of data against a built-in type -/
def isiD (d : PyData) (t : Ty) : Bool :=
  match d, t with
  | .bool _, .bool => true
  | .bool _, .int => true
  | .int _, .int => true
  | .str _, .str => true
  | .list _, .list => true
  | .tuple _, .tuple => true
  | _, _ => false
def isiO (d : PyData) (t : Ty) : Option Bool := match d with
  | .dict _ => none
  | d => some (isiD d t)
def intsOf : List PyData → Option (List Int)
  | [] => some []
  | .int i :: r => (intsOf r).map (i :: ·)
  | _ :: _ => none
def minO : List Int → Option O
  | [] => none
  | n :: r => some (.fz (.int (r.foldl (fun m x => if x < m then x else m) n)))
def maxO : List Int → Option O
  | [] => none
  | n :: r => some (.fz (.int (r.foldl (fun m x => if m < x then x else m) n)))
def bl1C : Bl1 → Bool
  | .min => true
  | .max => true
  | .list => true
  | _ => false
def bl1O (f : Bl1) (a : O) : Option O :=
  match f, a with
  | .len, .fz (.str s) => if strRoom s.length then some (.fz (.int s.length)) else none
  | .len, .fz (.list ds) => some (.fz (.int ds.length))
  | .len, .fz (.tuple ds) => some (.fz (.int ds.length))
  | .len, .lst os => some (.fz (.int os.length))
  | .len, .tup os => some (.fz (.int os.length))
  | .len, .dk kvs => some (.fz (.int kvs.length))
  | .abs, .fz (.int i) => some (.fz (.int (if i < 0 then -i else i)))
  | .int, .fz (.bool b) => some (.fz (.int (if b then 1 else 0)))
  | .str, .fz (.int i) => if decide (i.natAbs.log2 < 1920) then some (.fz (.str (toString i))) else none
  | .min, a => (listOf a).bind fun ds => (intsOf ds).bind fun ns => minO ns
  | .max, a => (listOf a).bind fun ds => (intsOf ds).bind fun ns => maxO ns
  | .list, .fz (.tuple ds) => some (.lst (ds.map .fz))
  | .list, .dk kvs => some (.lst (kvs.map fun p => .fz (keyD p.1)))
  | .list, .fz (.dict ((kd, d) :: r)) => if (keyOf kd).isSome then some (.lst (((kd, d) :: r).map fun p => .fz p.1)) else none
  | .list, a => (listOf a).map fun ds => .lst (ds.map .fz)
  | _, _ => none

/-! ### sorting -/
def tupNB : PyData → Bool
  | .tuple (_ :: _) => true
  | _ => false
def onlyB : PyData → Bool
  | .none => false
  | .tuple _ => false
  | _ => true
def srtB (ds : List PyData) : Bool := (ds.all fun d => ds.all fun b => PySem.W.alike d b) && (ds.all tupNB || ds.all onlyB) && (ds.all SeqAt.shaped) && strRoom ds.length
def srtO (rv : Bool) (o : O) : Option O := match o with
  | .lst os => if srtB (ers os) then some (.lst (os.mergeSort (PySem.W.dataLe rv er))) else none
  | .fz (.list ds) => if srtB ds then some (.lst ((ds.mergeSort (PySem.W.dataLe rv id)).map .fz)) else none
  | _ => none
/-! ### exceptions: a class's name tells which classes take it -/
def excSub (c h : Str) : Bool := decide (c = h) || decide (h = ("RimError" : Str)) || decide (h = ("ValueError" : Str))
abbrev excD (c : Str) : PyData := .dict [(.none, .str c)]
def excOf : O → Option Str
  | .fz (.dict [(.none, .str c)]) => some c
  | _ => none
def isxO (ex cs : List Str) (o : O) : Option Bool := (excOf o).bind fun c => if decide (c ∈ ex) then some (cs.any (excSub c)) else none
/-! ### evaluation -/
def setTg (t : Tg) (d : PyData) (e : Env) : Option Env :=
  match t with
  | .nm i => some (e.set i (some (.fz d)))
  | .tp a b => match d with
    | .tuple [x, y] => (setTg a x e).bind (setTg b y)
    | _ => none
  | .tp3 a b c => match d with
    | .tuple [x, y, z] => (setTg a x e).bind fun e1 => (setTg b y e1).bind (setTg c z)
    | _ => none
  | .tp4 a b c f => match d with
    | .tuple [x, y, z, u] => (setTg a x e).bind fun e1 => (setTg b y e1).bind fun e2 => (setTg c z e2).bind (setTg f u)
    | _ => none
def wipeE (e : Env) : List Nat → Env
  | [] => e
  | v :: vs => (wipeE e vs).set v none
/-- the turns of a comprehension -/
def compRun (tg : Tg) (own : List Nat) (cnd : Env → Rs Bool) (elt : Env → Rs O) : List PyData → Env → Rs (List O)
  | [], e => .ok [] e
  | d :: ds, e => match setTg tg d (wipeE e own) with
    | none => .no
    | some e1 => (cnd e1).bind fun b e2 =>
      if b then (elt e2).bind fun o e3 => (compRun tg own cnd elt ds (wipeE e3 own)).bind fun os e4 => .ok (o :: os) e4
      else compRun tg own cnd elt ds (wipeE e2 own)
def boolOf (o : O) (e : Env) : Rs Bool := match o with
  | .fz (.bool b) => .ok b e
  | _ => .no
def intOf (o : O) (e : Env) : Rs Int := match o with
  | .fz (.int i) => .ok i e
  | _ => .no
def strsOf : List PyData → Option (List Str)
  | [] => some []
  | .str s :: r => (strsOf r).map (s :: ·)
  | _ :: _ => none
def joinO (s : Str) (y : O) : Option O := match listOf y with
  | some ds => (match strsOf ds with
    | some ss => if strRoom ((ss.map (·.length)).sum + ss.length * s.length) then some (.fz (.str (Txt.join s ss))) else none
    | none => none)
  | none => none
def rngD (lo : Int) (n : Nat) : List PyData := (List.range n).map fun (i : Nat) => .int (lo + (i : Int))
def rngOk (i : Int) : Bool := Nat.ble i.natAbs 4611686018427387903
/-- what a call's argument is to get back -/
inductive Ar where
  | val (o : O)
  | lend (i : Nat) (o : O)
  | bor (o : O)
def Ar.o : Ar → O
  | .val o => o
  | .lend _ o => o
  | .bor o => .fz (er o)
def hasBor : List Ar → Bool
  | [] => false
  | .bor o :: r => !isFz o || hasBor r
  | _ :: r => hasBor r
/-- no exceptions out of here -/
def Rs.calm {α : Type} : Rs α → Rs α
  | .ok a e => .ok a e
  | _ => .no
/-- behind a call: what was lent comes back -/
def backAr : List Ar → Env → Env → Env
  | .lend i _ :: r, p :: ps, e => backAr r ps (e.set i p)
  | _ :: r, _ :: ps, e => backAr r ps e
  | _, _, e => e
/-- what comes back is what was lent -/
def lentE : List Ar → Env → Env
  | .lend _ _ :: r, p :: ps => p :: lentE r ps
  | _ :: r, _ :: ps => none :: lentE r ps
  | _, ps => ps.map fun _ => none
def lfE : Env → Bool
  | [] => true
  | none :: r => lfE r
  | some o :: r => lfO o && lfE r

def mutO (m : Mt) (os as : List O) : Option (List O × O) :=
  match m, as with
  | .append, [x] => if decide (os.length < sizeLine) then some (os ++ [x], .fz .none) else none
  | .pop, [] => match os.getLast? with
    | some x => some (os.dropLast, x)
    | none => none
  | .popAt, [.fz (.int i)] => if decide (-(2 ^ 63) ≤ i) && decide (i < 2 ^ 63) then (match seqIndex? i os.length with
    | some k => (match os[k]? with
      | some x => some (os.eraseIdx k, x)
      | none => none)
    | none => none) else none
  | .insert, [.fz (.int i), x] => if decide (0 ≤ i) && decide (i < 2 ^ 63) && decide (os.length < sizeLine) then some (os.take i.toNat ++ [x] ++ os.drop i.toNat, .fz .none) else none
  | .reverse, [] => some (os.reverse, .fz .none)
  | .clear, [] => some ([], .fz .none)
  | .extend, [.lst zs] => if Nat.ble (os.length + zs.length) sizeLine then some (os ++ zs, .fz .none) else none
  | _, _ => none
/-- a dict with a list at a key -/
def sdfK (kvs : List (Key × O)) (kk : Key) : List (Key × O) := match get1 kvs kk with
  | some _ => kvs
  | none => put1 kvs kk (.lst [])
/-- a slot, the tree at a place of it, and the slot's tree with another one there -/
abbrev Plc := Nat × O × (O → O)
mutual
/-- w: for reading (a place as it stands) -/
def ev (F : Fns) (w : Bool) : E → Env → Rs O
  | .var i, e => match e[i]? with
    | some (some o) => if w || isFz o then .ok o e else .no
    | _ => .no
  | .mov i, e => match e[i]? with
    | some (some o) => .ok o (e.set i none)
    | _ => .no
  | .int i, e => .ok (.fz (.int i)) e
  | .str s, e => .ok (.fz (.str s)) e
  | .bl b, e => .ok (.fz (.bool b)) e
  | .non, e => .ok (.fz .none) e
  | .bin op a b, e => (ev F true a e).bind fun x e1 => (ev F true b e1).bind fun y e2 => if !pl a || isFz x || qt b then Rs.of e2 (binO op x y) else .no
  | .neg a, e => (ev F false a e).bind fun x e1 => Rs.of e1 (negO x)
  | .cmp op a b, e => (ev F true a e).bind fun x e1 => (ev F true b e1).bind fun y e2 => if !pl a || isFz x || qt b then Rs.of e2 ((cmpO op x y).map fun r => .fz (.bool r)) else .no
  | .band a b, e => (ev F false a e).bind fun x e1 => (boolOf x e1).bind fun r e1 => if r then (ev F false b e1).bind fun y e2 => (boolOf y e2).bind fun r e2 => .ok (.fz (.bool r)) e2 else .ok (.fz (.bool false)) e1
  | .bor a b, e => (ev F false a e).bind fun x e1 => (boolOf x e1).bind fun r e1 => if r then .ok (.fz (.bool true)) e1 else (ev F false b e1).bind fun y e2 => (boolOf y e2).bind fun r e2 => .ok (.fz (.bool r)) e2
  | .not a, e => (ev F false a e).bind fun x e1 => (boolOf x e1).bind fun r e1 => .ok (.fz (.bool (!r))) e1
  | .ix a b, e => (ev F true a e).bind fun x e1 => (ev F false b e1).bind fun y e2 => if !pl a || isFz x || qt b then (match itemO x (er y) with
    | some o => if isFz o || (w && pl a && qt b) then .ok o e2 else .no
    | none => .no) else .no
  | .sl a lo hi, e => (ev F true a e).bind fun x e1 => (evOI F lo e1).bind fun l e2 => (evOI F hi e2).bind fun h e3 => if !pl a || isFz x || (qtO lo && qtO hi) then Rs.of e3 (sliceO x l h) else .no
  | .rev a, e => (ev F true a e).bind fun x e1 => Rs.of e1 ((listOf x).map fun ds => .lst (ds.reverse.map .fz))
  | .tup es, e => (evEs F es e).bind fun os e1 => if strRoom os.length then .ok (mkTup os) e1 else .no
  | .lst es, e => (evEs F es e).bind fun os e1 => if strRoom os.length then .ok (.lst os) e1 else .no
  | .call f es, e => (evAs F es e).bind fun as e1 => match F f (as.map Ar.o) with
    | .ok o ps => if !hasBor as || (lfO o && lfE (lentE as ps)) then .ok o (backAr as ps e1) else .no
    | .ex c ps => if !hasBor as || lfE (lentE as ps) then .ex c (backAr as ps e1) else .no
    | .no => .no
  | .bl1 f a, e => (ev F true a e).bind fun x e1 => Rs.of e1 (bl1O f x)
  | .isi a t, e => (ev F true a e).bind fun x e1 => Rs.of e1 ((isiO (er x) t).map fun r => .fz (.bool r))
  | .isx a cs ex, e => (ev F true a e).bind fun x e1 => Rs.of e1 ((isxO ex cs x).map fun r => .fz (.bool r))
  | .frz a, e => (ev F false a e).bind fun x e1 => .ok (.fz (er x)) e1
  | .lck a, e => (ev F false a e).bind fun x e1 => match x with
    | .dk kvs => .ok (.fz (.dict ((.none, .bool true) :: erk kvs))) e1
    | _ => .no
  | .comp elt tg it c own, e => (evIt F it e).bind fun ds e1 => (compRun tg own (fun e => evC F c e) (fun e => ev F false elt e) ds (wipeE e1 own)).calm.bind fun os e2 => if strRoom os.length then .ok (.lst os) e2 else .no
  | .join a b, e => (ev F false a e).bind fun x e1 => match x with
    | .fz (.str s) => (ev F true b e1).bind fun y e2 => Rs.of e2 (joinO s y)
    | _ => .no
  | .mut m p es, e => match getP F p e with
    | some (i, .lst os, put) => if qts es then (evEs F es e).calm.bind fun as _ => (match mutO m os as with
        | some (os', r) => .ok r (e.set i (some (put (.lst os'))))
        | none => .no)
      else (evEs F es (e.set i none)).bind fun as e1 => (match mutO m os as with
        | some (os', r) => .ok r (e1.set i (some (put (.lst os'))))
        | none => .no)
    | _ => .no
  | .lkv i, e => match e[i]? with
    | some (some (.dk kvs)) => .ok (.fz (.dict ((.none, .bool true) :: erk kvs))) (e.set i (some (.fz (.dict ((.none, .bool true) :: erk kvs)))))
    | some (some (.fz d)) => .ok (.fz d) e
    | _ => .no
  | .cmpA op i b, e => match e[i]? with
    | some (some _) => (ev F true b e).bind fun y e2 => (match e2[i]? with
      | some (some x) => Rs.of e2 ((cmpO op x y).map fun r => .fz (.bool r))
      | _ => .no)
    | _ => .no
  | .sdf i k v, e => match e[i]? with
    | some (some (.dk kvs)) => if qt k && (qt v && decide (kvs.length < sizeLine)) then (ev F false k e).calm.bind fun x _ => (match keyOf (er x) with
        | some kk => (match get1 (sdfK kvs kk) kk with
          | some (.lst os) => (ev F false v (e.set i (some (.dk (sdfK kvs kk))))).calm.bind fun y _ => (match mutO .append os [y] with
            | some (os', r) => .ok r (e.set i (some (.dk (put1 (sdfK kvs kk) kk (.lst os')))))
            | none => .no)
          | _ => .no)
        | none => .no) else .no
    | _ => .no
  | .lrg a, e => (ev F false a e).bind fun x e1 => (intOf x e1).bind fun n e1 => if rngOk n && Nat.ble n.toNat 16777216 then .ok (.lst ((rngD 0 n.toNat).map .fz)) e1 else .no
  | .lrg2 a b, e => (ev F false a e).bind fun x e1 => (intOf x e1).bind fun l e1 => (ev F false b e1).bind fun y e2 => (intOf y e2).bind fun h e2 => if rngOk l && rngOk h && Nat.ble (h - l).toNat 16777216 then .ok (.lst ((rngD l (h - l).toNat).map .fz)) e2 else .no
  | .mutA m i es, e => match e[i]? with
    | some (some (.lst _)) => (evEs F es e).bind fun as e1 => (match e1[i]? with
      | some (some (.lst os)) => (match mutO m os as with
        | some (os', r) => .ok r (e1.set i (some (.lst os')))
        | none => .no)
      | _ => .no)
    | _ => .no
  | .mm g a b, e => (ev F false a e).bind fun x e1 => (intOf x e1).bind fun i e1 => (ev F false b e1).bind fun y e2 => (intOf y e2).bind fun j e2 => .ok (.fz (.int (if g then (if j > i then j else i) else (if j < i then j else i)))) e2
  | .dkn, e => .ok (.dk []) e
  | .dtn, e => .ok (.dt []) e
  | .srt a rv, e => (ev F false a e).bind fun x e1 => Rs.of e1 (srtO rv x)
  | .ixA i b, e => match e[i]? with
    | some (some _) => (ev F false b e).bind fun y e1 => (match e1[i]? with
      | some (some x) => (match itemO x (er y) with
        | some o => if isFz o then .ok o e1 else .no
        | none => .no)
      | _ => .no)
    | _ => .no
def getP (F : Fns) : Pa → Env → Option Plc
  | .nm i, e => match e[i]? with
    | some (some o) => some (i, o, fun x => x)
    | _ => none
  | .ix p k, e => if qt k then (match getP F p e with
    | some (i, o, put) => (match ev F false k e with
      | .ok (.fz (.int j)) _ => (match o with
        | .lst os => (match ixN os.length j with
          | some n => (match os[n]? with
            | some x => some (i, x, fun y => put (.lst (os.set n y)))
            | none => none)
          | none => none)
        | .tup os => (match ixN os.length j with
          | some n => (match os[n]? with
            | some x => some (i, x, fun y => put (.tup (os.set n y)))
            | none => none)
          | none => none)
        | .dk kvs => (match get1 kvs (.inl j) with
          | some x => some (i, x, fun y => put (.dk (put1 kvs (.inl j) y)))
          | none => none)
        | _ => none)
      | .ok (.fz (.str j)) _ => (match o with
        | .dk kvs => (match get1 kvs (.inr j) with
          | some x => some (i, x, fun y => put (.dk (put1 kvs (.inr j) y)))
          | none => none)
        | _ => none)
      | _ => none)
    | none => none) else none
def evEs (F : Fns) : Es → Env → Rs (List O)
  | .nil, e => .ok [] e
  | .cons a r, e => (ev F false a e).bind fun x e1 => (evEs F r e1).bind fun xs e2 => .ok (x :: xs) e2
def evOI (F : Fns) : OE → Env → Rs (Option Int)
  | .no, e => .ok none e
  | .so a, e => (ev F false a e).bind fun x e1 => (intOf x e1).bind fun i e2 => .ok (some i) e2
def evC (F : Fns) : OE → Env → Rs Bool
  | .no, e => .ok true e
  | .so a, e => (ev F false a e).bind fun x e1 => boolOf x e1
def evAs (F : Fns) : As → Env → Rs (List Ar)
  | .nil, e => .ok [] e
  | .cons .val a r, e => (ev F false a e).bind fun x e1 => (evAs F r e1).bind fun xs e2 => .ok (.val x :: xs) e2
  | .cons (.lend i) _ r, e => match e[i]? with
    | some (some o) => (evAs F r (e.set i none)).bind fun xs e2 => .ok (.lend i o :: xs) e2
    | _ => .no
  | .cons (.borA i) _ r, e => match e[i]? with
    | some (some _) => (evAs F r e).bind fun xs e2 => (match e2[i]? with
      | some (some x) => .ok (.bor x :: xs) e2
      | _ => .no)
    | _ => .no
  | .cons .bor a r, e => if pl a then (ev F true a e).bind fun x e1 => (evAs F r e1).bind fun xs e2 => if isFz x || qtA r then .ok (.bor x :: xs) e2 else .no else .no
def evIt (F : Fns) : It → Env → Rs (List PyData)
  | .seq a, e => (ev F false a e).bind fun x e1 => match er x with
    | .list ds => .ok ds e1
    | .tuple ds => .ok ds e1
    | .dict ((.none, .bool true) :: r) => .ok (r.map (·.1)) e1
    | .str s => .ok (s.cps.toList.map fun c => .str ⟨#[c]⟩) e1
    | _ => .no
  | .rng1 a, e => (ev F false a e).bind fun x e1 => (intOf x e1).bind fun n e1 => if rngOk n then .ok (rngD 0 n.toNat) e1 else .no
  | .rng2 a b, e => (ev F false a e).bind fun x e1 => (intOf x e1).bind fun l e1 => (ev F false b e1).bind fun y e2 => (intOf y e2).bind fun h e2 => if rngOk l && rngOk h then .ok (rngD l (h - l).toNat) e2 else .no
  | .enum a, e => (ev F false a e).bind fun x e1 => match er x with
    | .list ds => .ok (ds.zipIdx.map fun p => .tuple [.int p.2, p.1]) e1
    | _ => .no
  | .zip a b, e => (ev F false a e).bind fun x e1 => (ev F false b e1).bind fun y e2 => match er x, er y with
    | .list xs, .list ys => .ok ((xs.zip ys).map fun p => .tuple [p.1, p.2]) e2
    | _, _ => .no
end
end Rim
namespace Rim
open PySem PySem.Spec PyProof.Rows L2

/-! ### weakest readings -/
def wE (X : Cx) (a : Expr) : TE := fun σ H Q => ∀ pins s, Inv X pins σ H s → wpAny (model X.prog X.w) X.A (eval a X.env) (EP X pins σ Q) X.xe s
theorem pe_wE {X : Cx} {a : Expr} : PE X a (wE X a) := ⟨fun pins s σ H Q I h => h pins s I⟩
theorem wE_of {X : Cx} {a : Expr} {t : TE} (h : PE X a t) {σ : L2.St} {H : Hp} {Q : VK} (q : t σ H Q) : wE X a σ H Q := fun pins s I => h.run pins s σ H Q I q
theorem wE_mono {X : Cx} {a : Expr} {σ : L2.St} {H : Hp} {Q Q' : VK} (h : wE X a σ H Q) (k : ∀ v H', Q v H' → Q' v H') : wE X a σ H Q' := fun pins s I =>
  thn (h pins s I) fun u s' ⟨v, H', I', r, q⟩ => ⟨v, H', I', r, k v H' q⟩
/-- a function of two values, of a list of values, at the slots σ -/
def OpV (X : Cx) (f : Value → Value → Sem Value) (σ : L2.St) (x y : V) (H : Hp) (Q : VK) : Prop := ∀ pins s v u, Inv X pins σ H s → RelV x v → RelV y u → wpAny (model X.prog X.w) X.A (f v u) (EP X pins σ Q) X.xe s
def CallV (X : Cx) (f : Value) (σ : L2.St) (xs : List V) (H : Hp) (Q : VK) : Prop := ∀ pins s us, Inv X pins σ H s → Vals xs us → wpAny (model X.prog X.w) X.A (call f us) (EP X pins σ Q) X.xe s
theorem opV_of {X : Cx} {f : Value → Value → Sem Value} {r : R2} (h : OpR X f r) {σ : L2.St} {x y : V} {H : Hp} {Q : VK} (q : r x y H Q) : OpV X f σ x y H Q := fun pins s v u I rx ry => h pins s σ H x y v u Q I rx ry q
theorem callV_of {X : Cx} {f : Value} {r : List V → Hp → VK → Prop} (h : CallR X f r) {σ : L2.St} {xs : List V} {H : Hp} {Q : VK} (q : r xs H Q) : CallV X f σ xs H Q := fun pins s us I rx => h pins s σ H xs us Q I rx q

/-! ### what comes out of quiet operations: H only grows, Sv is new -/
structure NP (K : PySem.W.Frag) (Z H : Hp) (v : V) (o : O) (H' : Hp) (Sv : AS) : Prop where
  ex : Ex H H'
  new : ∀ a, Sv a → H a = none ∧ Mut (H' a)
  ro : RO K Z H' v o Sv
/-- what comes out of an evaluation: q: it was quiet; t: the value is apart from the slots -/
structure PR (K : PySem.W.Frag) (q t : Bool) (σ : L2.St) (S : AS) (Z H : Hp) (e' : Env) (R : Hp → Hp → AS → AS → Prop) (Z' H' : Hp) (S' Sv : AS) : Prop where
  wd : Wd S' Z' H'
  gr : Gr S Z H S' Z' H'
  re : RE K Z' H' σ e' S'
  ro : R Z' H' S' Sv
  apart : t = true → (∀ a, S' a → ¬ Sv a) ∧ Wd Sv Z' H' ∧ Gr S Z H (Sor S' Sv) Z' H'
  sub : t = false → ∀ a, Sv a → S' a
  quiet : q = true → Ex H H' ∧ Z' = Z ∧ ∀ a, S a → S' a
/-- behind an exception -/
structure PX (K : PySem.W.Frag) (σ : L2.St) (S : AS) (Z H : Hp) (e' : Env) (Z' H' : Hp) (S' : AS) : Prop where
  wd : Wd S' Z' H'
  gr : Gr S Z H S' Z' H'
  re : RE K Z' H' σ e' S'

def repO (K : PySem.W.Frag) : V → O → Hp → Hp → AS → AS → Prop := fun v o Z H _ S => RO K Z H v o S
def repOs (K : PySem.W.Frag) : List V → List O → Hp → Hp → AS → AS → Prop := fun v o Z H _ S => ROs K Z H v o S
def repId {α : Type} : α → α → Hp → Hp → AS → AS → Prop := fun a b _ _ _ _ => a = b
section
variable {K : PySem.W.Frag} {Z Z' Z1 H H' H1 H'' : Hp} {σ : L2.St} {e e1 e' : Env} {S S' S1 Sv T : AS} {v : V} {o : O} {d : PyData} {q q1 q2 t t1 : Bool}
theorem NP.flat (h : RD K Z H v d) : NP K Z H v (.fz d) H (fun _ => False) := ⟨Ex.refl _, fun _ q => q.elim, .fz h⟩
theorem not_own_none (w : Wd S Z H) {a : Addr} (h : S a) (n : H a = none) : False := by
  have q := (w.own a h).2
  rw [n] at q
  exact q
theorem NP.wd (w : Wd S Z H) (n : NP K Z H v o H' Sv) : Wd (Sor S Sv) Z H' := by
  refine ⟨fun a u q => n.ex a u (w.zh a u q), fun a q => ?_⟩
  rcases q with q | q
  · obtain ⟨q1, q2⟩ := w.own a q
    refine ⟨q1, ?_⟩
    cases r : H a with
    | none => rw [r] at q2; exact q2.elim
    | some u => rw [n.ex a u r]; rw [r] at q2; exact q2
  · obtain ⟨q1, q2⟩ := n.new a q
    refine ⟨?_, q2⟩
    cases r : Z a with
    | none => rfl
    | some u => rw [w.zh a u r] at q1; cases q1
theorem NP.gr (w : Wd S Z H) (n : NP K Z H v o H' Sv) : Gr S Z H (Sor S Sv) Z H' := by
  refine ⟨Ex.refl _, fun a u q _ => n.ex a u q, fun a q => ?_⟩
  rcases q with (q | q) | q
  · exact .inl q
  · exact .inr (.inl (n.new a q).1)
  · exact .inr (.inr q)
theorem NP.re (w : Wd S Z H) (n : NP K Z H v o H' Sv) (r : RE K Z H σ e S) : RE K Z H' σ e S := r.stay (Ex.refl _) n.ex.tx fun a u _ q => n.ex a u q
theorem NP.apart (w : Wd S Z H) (n : NP K Z H v o H' Sv) : ∀ a, S a → ¬ Sv a := fun a q z => not_own_none w q (n.new a z).1
theorem NP.pr (ht : t = true) (w : Wd S Z H) (r : RE K Z H σ e S) (n : NP K Z H v o H' Sv) : PR K q t σ S Z H e (repO K v o) Z H' S Sv := by
  subst ht
  exact ⟨(n.wd w).sub fun _ => .inl, (n.gr w).subR fun _ => .inl, n.re w r, n.ro, fun _ => ⟨n.apart w, (n.wd w).sub fun _ => .inr, n.gr w⟩, (fun z => nomatch z), fun _ => ⟨n.ex, rfl, fun _ z => z⟩⟩
/-- nothing happened -/
theorem PR.here (w : Wd S Z H) (r : RE K Z H σ e S) {R : Hp → Hp → AS → AS → Prop} (h : R Z H S fun _ => False) : PR K q t σ S Z H e R Z H S (fun _ => False) :=
  ⟨w, .refl, r, h, fun _ => ⟨fun _ _ z => z, ⟨w.zh, fun _ z => z.elim⟩, Gr.refl.subR fun _ z => z.elim (fun y => y) fun y => y.elim⟩, fun _ _ z => z.elim, fun _ => ⟨Ex.refl _, rfl, fun _ z => z⟩⟩
/-- ahead of it something else -/
theorem PR.shift {R : Hp → Hp → AS → AS → Prop} (w : Wd S1 Z1 H1) (g : Gr S Z H S1 Z1 H1) (x : q = true → q2 = true ∧ Ex H H1 ∧ Z1 = Z ∧ ∀ a, S a → S1 a) (p : PR K q2 t σ S1 Z1 H1 e' R Z' H' S' Sv) : PR K q t σ S Z H e' R Z' H' S' Sv :=
  ⟨p.wd, g.trans w p.gr, p.re, p.ro, fun z => ⟨(p.apart z).1, (p.apart z).2.1, g.trans w (p.apart z).2.2⟩, p.sub, fun z => ⟨(x z).2.1.trans (p.quiet (x z).1).1, (p.quiet (x z).1).2.1.trans (x z).2.2.1, fun a y => (p.quiet (x z).1).2.2 a ((x z).2.2.2 a y)⟩⟩
theorem PX.shift (w : Wd S1 Z1 H1) (g : Gr S Z H S1 Z1 H1) (p : PX K σ S1 Z1 H1 e' Z' H' S') : PX K σ S Z H e' Z' H' S' := ⟨p.wd, g.trans w p.gr, p.re⟩
theorem PR.imp {R R' : Hp → Hp → AS → AS → Prop} (h : R Z' H' S' Sv → R' Z' H' S' Sv) (p : PR K q t σ S Z H e' R Z' H' S' Sv) : PR K q t σ S Z H e' R' Z' H' S' Sv := ⟨p.wd, p.gr, p.re, h p.ro, p.apart, p.sub, p.quiet⟩
/-- the value is dropped, or is flat -/
theorem PR.flat {R R' : Hp → Hp → AS → AS → Prop} {t2 : Bool} (h : R' Z' H' S' fun _ => False) (p : PR K q t σ S Z H e' R Z' H' S' Sv) : PR K q t2 σ S Z H e' R' Z' H' S' (fun _ => False) :=
  ⟨p.wd, p.gr, p.re, h, fun _ => ⟨fun _ _ z => z, ⟨p.wd.zh, fun _ z => z.elim⟩, p.gr.subR fun _ z => z.elim (fun y => y) fun y => y.elim⟩, fun _ _ z => z.elim, p.quiet⟩
/-- a new list of frozen things -/
theorem ros_fz {xs : List V} {ds : List PyData} (h : RDs K Z H xs ds) : ∀ {S : AS}, ROs K Z H xs (ds.map .fz) S := by
  induction ds generalizing xs with
  | nil => cases h; exact .nil
  | cons d ds ih =>
    intro S
    cases h with
    | cons h1 h2 => exact .cons (S1 := fun _ => False) (S2 := fun _ => False) (.fz h1) (ih h2) (fun _ q => q.elim) (fun _ q => q.elim) fun _ q => q.elim
theorem NP.list {p : Addr} {xs : List V} {ds : List PyData} (h : RDs K Z H xs ds) (hp : H p = none) : NP K Z H (.ref p) (.lst (ds.map .fz)) (upd H p (.lst xs)) (fun x => x = p) := by
  refine ⟨ex_new hp, fun a q => ?_, .lst (S' := fun _ => False) upd_same rfl (ros_fz (h.mono (Ex.refl _) (ex_new hp).tx)) (fun _ q => q.elim) fun q => q⟩
  rw [q, upd_same]
  exact ⟨hp, True.intro⟩
end

section
variable {X : Cx} {W : WX} {cl : Str → Value} {q q1 q2 t t1 : Bool} {σ : L2.St} {S S1 : AS} {Z H Z1 H1 : Hp} {α β α' β' : Type}
/-- what a run's word promises -/
def RSpec (X : Cx) (W : WX) (cl : Str → Value) (rep : β → α → Hp → Hp → AS → AS → Prop) (q t : Bool) (σ : L2.St) (S : AS) (Z H : Hp) (r : Rs α) (Q : β → Hp → Prop) : Prop :=
  match r with
  | .ok a e' => ∀ b Z' H' S' Sv, PR X.K q t σ S Z H e' (rep b a) Z' H' S' Sv → Q b H'
  | .ex c e' => ∀ Z' H' S', PX X.K σ S Z H e' Z' H' S' → W (cl c) none σ H'
  | .no => False
def SR (X : Cx) (W : WX) (cl : Str → Value) (rep : β → α → Hp → Hp → AS → AS → Prop) (q t : Bool) (te : L2.St → Hp → (β → Hp → Prop) → Prop) (σ : L2.St) (S : AS) (Z H : Hp) (r : Rs α) : Prop :=
  ∀ Q, RSpec X W cl rep q t σ S Z H r Q → te σ H Q
theorem RSpec.shift {rep : β → α → Hp → Hp → AS → AS → Prop} {r : Rs α} {Q : β → Hp → Prop} (w : Wd S1 Z1 H1) (g : Gr S Z H S1 Z1 H1) (x : q = true → q2 = true ∧ Ex H H1 ∧ Z1 = Z ∧ ∀ a, S a → S1 a) (h : RSpec X W cl rep q t σ S Z H r Q) : RSpec X W cl rep q2 t σ S1 Z1 H1 r Q := by
  cases r with
  | ok a e' => exact fun b Z' H' S' Sv p => h b Z' H' S' Sv (p.shift w g x)
  | ex c e' => exact fun Z' H' S' p => h Z' H' S' (p.shift w g)
  | no => exact h
theorem RSpec.bind {rep : β → α → Hp → Hp → AS → AS → Prop} {rep' : β' → α' → Hp → Hp → AS → AS → Prop} {r : Rs α} {f : α → Env → Rs α'} {Q : β' → Hp → Prop} {Q1 : β → Hp → Prop} (x : q = true → q1 = true ∧ q2 = true)
    (k : ∀ a e1, r = .ok a e1 → ∀ b Z1 H1 S1 Sv, PR X.K q1 t1 σ S Z H e1 (rep b a) Z1 H1 S1 Sv → RSpec X W cl rep' q2 t σ S1 Z1 H1 (f a e1) Q → Q1 b H1)
    (h : RSpec X W cl rep' q t σ S Z H (r.bind f) Q) : RSpec X W cl rep q1 t1 σ S Z H r Q1 := by
  cases r with
  | ok a e1 => exact fun b Z1 H1 S1 Sv p => k a e1 rfl b Z1 H1 S1 Sv p (h.shift p.wd p.gr fun z => ⟨(x z).2, p.quiet (x z).1⟩)
  | ex c e' => exact h
  | no => exact h.elim
theorem RSpec.of {rep : β → α → Hp → Hp → AS → AS → Prop} {e : Env} {o : Option α} {Q : β → Hp → Prop} (h : RSpec X W cl rep q t σ S Z H (Rs.of e o) Q) : ∃ a, o = some a ∧ ∀ b Z' H' S' Sv, PR X.K q t σ S Z H e (rep b a) Z' H' S' Sv → Q b H' := by
  cases o with
  | none => exact h.elim
  | some a => exact ⟨a, rfl, h⟩
end
end Rim
namespace Rim
open PySem PySem.Spec PyProof.Rows L2

/-! ### tables -/
section
variable {κ α : Type} [DecidableEq κ]
theorem valV_get1 {κ : Type} [DecidableEq κ] (k : κ) : ∀ kvs : List (κ × V), valV kvs k = get1 kvs k
  | [] => rfl
  | (k', v) :: r => by
    unfold get1
    by_cases e : k' = k
    · rw [if_pos e, valV_pos (p := (k', v)) e]
    · rw [if_neg e, valV_neg (p := (k', v)) e, valV_get1 k r]
theorem map_same {κ α : Type} [DecidableEq κ] {k : κ} {v : α} : ∀ {r : List (κ × α)}, ¬ k ∈ r.map (·.1) → r.map (fun kv => if kv.1 = k then (kv.1, v) else kv) = r
  | [], _ => rfl
  | p :: r, h => by
    rw [List.map_cons, if_neg fun e => h (by rw [List.map_cons, e]; exact List.mem_cons_self), map_same fun z => h (by rw [List.map_cons]; exact List.mem_cons_of_mem _ z)]
theorem putK_put1 {κ : Type} [DecidableEq κ] {k : κ} {v : V} : ∀ {kvs : List (κ × V)}, (kvs.map (·.1)).Nodup → putK kvs k v = put1 kvs k v
  | [], _ => by
    unfold putK put1
    rfl
  | (k', v') :: r, h => by
    rw [List.map_cons, List.nodup_cons] at h
    have ih := putK_put1 (k := k) (v := v) (kvs := r) h.2
    unfold put1
    by_cases e : k' = k
    · subst e
      rw [if_pos rfl]
      unfold putK
      rw [if_pos (by simp), List.map_cons, if_pos rfl, map_same h.1]
    · rw [if_neg e, ← ih]
      unfold putK
      rw [List.any_cons, decide_eq_false e, Bool.false_or]
      split
      · rw [List.map_cons, if_neg e]
      · rfl
theorem get1_none_put {κ α : Type} [DecidableEq κ] {k : κ} {v : α} : ∀ {kvs : List (κ × α)}, get1 kvs k = none → put1 kvs k v = kvs ++ [(k, v)]
  | [], _ => rfl
  | (k', v') :: r, h => by
    unfold get1 at h
    unfold put1
    split at h
    · cases h
    · rename_i e
      rw [if_neg e, get1_none_put h]
      rfl
end
theorem keyOf_keyD (k : Key) : keyOf (keyD k) = some k := by cases k <;> rfl
theorem keysO_map : ∀ ks : List Key, keysO (ks.map keyD) = some ks
  | [] => rfl
  | k :: ks => by
    rw [List.map_cons]
    unfold keysO
    rw [keyOf_keyD, keysO_map ks]
theorem keyTO_keyTD (ks : List Key) : keyTO (keyTD ks) = some ks := keysO_map ks
theorem keyTO_keyD (k : Key) : keyTO (keyD k) = none := by cases k <;> rfl
section
variable {K : PySem.W.Frag} {Z Z' H H' : Hp} {v w : V} {o : O} {d : PyData} {S A B T : AS}
theorem RO.rd0 (h : RO K Z H v (.fz d) S) : RD K Z H v d := by
  cases h
  assumption
theorem rd_key : ∀ k : Key, RD K Z H (kV k) (keyD k)
  | .inl i => .int i
  | .inr x => .str x
theorem key_rd {k : Key} (h : RD K Z H v d) (e : keyOf d = some k) : v = kV k := by
  cases h <;> first | (cases e; rfl) | (cases e; done)
theorem keys_rds : ∀ {vs : List V} {ds : List PyData} {ks : List Key}, RDs K Z H vs ds → keysO ds = some ks → vs = ks.map kV
  | _, _, _, .nil, e => by cases e; rfl
  | _, _, _, .cons (d := d) (ds := ds) h r, e => by
    unfold keysO at e
    split at e
    · rename_i k ks e1 e2
      cases e
      rw [key_rd h e1, keys_rds r e2]
      rfl
    · cases e
theorem keyT_rd {ks : List Key} (h : RD K Z H v d) (e : keyTO d = some ks) : ∃ b, v = .ref b ∧ H b = some (.tup (ks.map kV)) := by
  cases h with
  | tup h r =>
    have := keys_rds r e
    subst this
    exact ⟨_, rfl, h⟩
  | _ => cases e
theorem txt_rds : ∀ {vs : List V} {ds : List PyData} {ss : List Str}, RDs K Z H vs ds → txtOf ds = some ss → vs = ss.map V.str
  | _, _, _, .nil, e => by cases e; rfl
  | _, _, _, .cons (d := d) (ds := ds) h r, e => by
    cases h <;> first | (cases e; done) | skip
    obtain ⟨ss, e1, e2⟩ := Option.map_eq_some_iff.mp e
    subst e2
    rw [txt_rds r e1]
    rfl
theorem in_txt {s : Str} : ∀ {ss : List Str}, inV (.str s) (ss.map V.str) = ss.any fun t => t == s
  | [] => rfl
  | t :: ss => by
    have := in_txt (s := s) (ss := ss)
    unfold inV at this ⊢
    rw [List.map_cons, List.any_cons, List.any_cons, this]
    rfl
theorem all_txt : ∀ {ss : List Str}, (ss.map V.str).all flatV = true
  | [] => rfl
  | t :: ss => by
    rw [List.map_cons, List.all_cons, all_txt]
    rfl
theorem RDk.firsts : ∀ {kvs : List (Key × V)} {ds : List (PyData × PyData)}, RDk K Z H kvs ds → RDs K Z H (kvs.map fun kv => kV kv.1) (ds.map (·.1))
  | _, _, .nil => .nil
  | _, _, .cons h r => .cons (rd_key _) (RDk.firsts r)
theorem RDk.keys0 {kvs : List (Key × V)} {p : PyData × PyData} {ds : List (PyData × PyData)} (h : RDk K Z H kvs (p :: ds)) : ∃ k, p.1 = keyD k := by
  cases h
  exact ⟨_, rfl⟩
theorem RDt.keys0 {kvs : List (List Key × V)} {p : PyData × PyData} {ds : List (PyData × PyData)} (h : RDt K Z H kvs (p :: ds)) : ∃ k, p.1 = keyTD k := by
  cases h
  exact ⟨_, rfl⟩
/-! frozen -/
theorem RDk.get : ∀ {kvs : List (Key × V)} {ds : List (PyData × PyData)} {k : Key}, RDk K Z H kvs ds → (∀ d, fget ds k = some d → ∃ w, get1 kvs k = some w ∧ RD K Z H w d) ∧ (get1 kvs k).isSome = (fget ds k).isSome
  | _, _, k, .nil => ⟨fun _ z => (nomatch z), rfl⟩
  | _, _, k, .cons (k := k') (v := v) (d := d) h r => by
    obtain ⟨i1, i2⟩ := RDk.get (k := k) r
    unfold get1 fget
    rw [keyOf_keyD]
    by_cases e : k' = k
    · rw [if_pos e, if_pos (by rw [e])]
      exact ⟨fun d' z => by cases z; exact ⟨v, rfl, h⟩, rfl⟩
    · rw [if_neg e, if_neg fun z => e (Option.some.inj z)]
      exact ⟨i1, i2⟩
theorem RDk.noT {k : List Key} : ∀ {kvs : List (Key × V)} {ds : List (PyData × PyData)}, RDk K Z H kvs ds → fgetT ds k = none
  | _, _, .nil => rfl
  | _, _, .cons (k := k') h r => by
    unfold fgetT
    rw [keyTO_keyD, if_neg fun z => by cases z]
    exact RDk.noT r
theorem RDt.get : ∀ {kvs : List (List Key × V)} {ds : List (PyData × PyData)} {k : List Key}, RDt K Z H kvs ds → (∀ d, fgetT ds k = some d → ∃ w, get1 kvs k = some w ∧ RD K Z H w d) ∧ (get1 kvs k).isSome = (fgetT ds k).isSome
  | _, _, k, .nil => ⟨fun _ z => (nomatch z), rfl⟩
  | _, _, k, .cons (k := k') (v := v) (d := d) h r => by
    obtain ⟨i1, i2⟩ := RDt.get (k := k) r
    unfold get1 fgetT
    rw [keyTO_keyTD]
    by_cases e : k' = k
    · rw [if_pos e, if_pos (by rw [e])]
      exact ⟨fun d' z => by cases z; exact ⟨v, rfl, h⟩, rfl⟩
    · rw [if_neg e, if_neg fun z => e (Option.some.inj z)]
      exact ⟨i1, i2⟩
theorem RDt.noK {k : Key} : ∀ {kvs : List (List Key × V)} {ds : List (PyData × PyData)}, RDt K Z H kvs ds → fget ds k = none
  | _, _, .nil => rfl
  | _, _, .cons (k := k') h r => by
    unfold fget
    rw [show keyOf (keyTD k') = none from rfl, if_neg fun z => by cases z]
    exact RDt.noK r
/-! owned -/
theorem ROk.keys : ∀ {kvs : List (Key × V)} {os : List (Key × O)} {S : AS}, ROk K Z H kvs os S → kvs.map (·.1) = os.map (·.1)
  | _, _, _, .nil => rfl
  | _, _, _, .cons h r _ _ _ => by rw [List.map_cons, List.map_cons, ROk.keys r]
theorem ROk.len {kvs : List (Key × V)} {os : List (Key × O)} {S : AS} (h : ROk K Z H kvs os S) : kvs.length = os.length := by
  have := congrArg List.length h.keys
  rwa [List.length_map, List.length_map] at this
theorem ROk.get : ∀ {kvs : List (Key × V)} {os : List (Key × O)} {S : AS} {k : Key}, ROk K Z H kvs os S → (get1 kvs k).isSome = (get1 os k).isSome ∧ ∀ o, get1 os k = some o → ∃ w T, get1 kvs k = some w ∧ RO K Z H w o T ∧ (∀ x, T x → S x) ∧
    ∀ (Z' H' : Hp) (o' : O) (T' : AS), Ex Z Z' → Tx K H H' → (∀ a u, S a → ¬ T a → H a = some u → H' a = some u) → RO K Z' H' w o' T' → (∀ x, T' x → T x ∨ ¬ S x) → ROk K Z' H' kvs (put1 os k o') (fun x => (S x ∧ ¬ T x) ∨ T' x)
  | _, _, _, k, .nil => ⟨rfl, fun _ z => (nomatch z)⟩
  | _, _, S, k, .cons (k := k') (v := v1) (o := o1) (S1 := A1) (S2 := A2) h1 h2 b c d => by
    obtain ⟨i1, i2⟩ := ROk.get (k := k) h2
    unfold get1 put1
    by_cases e : k' = k
    · rw [if_pos e, if_pos e]
      refine ⟨rfl, fun o z => ?_⟩
      cases z
      refine ⟨v1, A1, rfl, h1, b, fun Z' H' o' T' ez t kp r hT => ?_⟩
      rw [if_pos e]
      refine .cons r (ROk.stay ez t h2 fun a u z => kp a u (c a z) fun y => d a y z) (fun _ => .inr) (fun x z => .inl ⟨c x z, fun y => d x y z⟩) fun x z y => ?_
      rcases hT x z with k | k
      · exact d x k y
      · exact k (c x y)
    · rw [if_neg e, if_neg e]
      refine ⟨i1, fun o z => ?_⟩
      obtain ⟨w, T, g1, g2, g3, g4⟩ := i2 o z
      refine ⟨w, T, g1, g2, fun x z => c x (g3 x z), fun Z' H' o' T' ez t kp r hT => ?_⟩
      have dT : ∀ x, A1 x → ¬ T x := fun x z y => d x z (g3 x y)
      rw [if_neg e]
      refine .cons (h1.stay ez t fun a u z => kp a u (b a z) (dT a z)) (g4 Z' H' o' T' ez t (fun a u z y => kp a u (c a z) y) r fun x z => (hT x z).imp id fun y k => y (c x k)) (fun x z => .inl ⟨b x z, dT x z⟩)
        (fun x z => z.imp (fun y => ⟨c x y.1, y.2⟩) id) fun x z y => ?_
      rcases y with y | y
      · exact d x z y.1
      · rcases hT x y with k | k
        · exact dT x z k
        · exact k (b x z)
theorem ROk.put : ∀ {kvs : List (Key × V)} {os : List (Key × O)} {A : AS} {k : Key}, ROk K Z H kvs os A → RO K Z H v o B → (∀ x, A x → ¬ B x) → ROk K Z H (put1 kvs k v) (put1 os k o) (Sor A B)
  | _, _, A, k, .nil, r, d => .cons (S2 := fun _ => False) r .nil (fun _ => .inr) (fun _ z => z.elim) fun _ _ z => z
  | _, _, A, k, .cons (k := k') h1 h2 b c d2, r, d => by
    unfold put1
    by_cases e : k' = k
    · rw [if_pos e, if_pos e]
      exact .cons r h2 (fun _ => .inr) (fun x z => .inl (c x z)) fun x z y => d x (c x y) z
    · rw [if_neg e, if_neg e]
      refine .cons h1 (ROk.put h2 r fun x z => d x (c x z)) (fun x z => .inl (b x z)) (fun x z => z.imp (c x) id) fun x z y => ?_
      rcases y with y | y
      · exact d2 x z y
      · exact d x (b x z) y
theorem ROt.keys : ∀ {kvs : List (List Key × V)} {os : List (List Key × O)} {S : AS}, ROt K Z H kvs os S → kvs.map (·.1) = os.map (·.1)
  | _, _, _, .nil => rfl
  | _, _, _, .cons h r _ _ _ => by rw [List.map_cons, List.map_cons, ROt.keys r]
theorem ROt.len {kvs : List (List Key × V)} {os : List (List Key × O)} {S : AS} (h : ROt K Z H kvs os S) : kvs.length = os.length := by
  have := congrArg List.length h.keys
  rwa [List.length_map, List.length_map] at this
theorem ROt.get : ∀ {kvs : List (List Key × V)} {os : List (List Key × O)} {S : AS} {k : List Key}, ROt K Z H kvs os S → (get1 kvs k).isSome = (get1 os k).isSome ∧ ∀ o, get1 os k = some o → ∃ w T, get1 kvs k = some w ∧ RO K Z H w o T ∧ (∀ x, T x → S x)
  | _, _, _, k, .nil => ⟨rfl, fun _ z => (nomatch z)⟩
  | _, _, S, k, .cons (k := k') (v := v1) (o := o1) (S1 := A1) (S2 := A2) h1 h2 b c d => by
    obtain ⟨i1, i2⟩ := ROt.get (k := k) h2
    unfold get1
    by_cases e : k' = k
    · rw [if_pos e, if_pos e]
      refine ⟨rfl, fun o z => ?_⟩
      cases z
      exact ⟨v1, A1, rfl, h1, b⟩
    · rw [if_neg e, if_neg e]
      refine ⟨i1, fun o z => ?_⟩
      obtain ⟨w, T, g1, g2, g3⟩ := i2 o z
      exact ⟨w, T, g1, g2, fun x z => c x (g3 x z)⟩
theorem ROt.put : ∀ {kvs : List (List Key × V)} {os : List (List Key × O)} {A : AS} {k : List Key}, ROt K Z H kvs os A → RO K Z H v o B → (∀ x, A x → ¬ B x) → ROt K Z H (put1 kvs k v) (put1 os k o) (Sor A B)
  | _, _, A, k, .nil, r, d => .cons (S2 := fun _ => False) r .nil (fun _ => .inr) (fun _ z => z.elim) fun _ _ z => z
  | _, _, A, k, .cons (k := k') h1 h2 b c d2, r, d => by
    unfold put1
    by_cases e : k' = k
    · rw [if_pos e, if_pos e]
      exact .cons r h2 (fun _ => .inr) (fun x z => .inl (c x z)) fun x z y => d x (c x y) z
    · rw [if_neg e, if_neg e]
      refine .cons h1 (ROt.put h2 r fun x z => d x (c x z)) (fun x z => .inl (b x z)) (fun x z => z.imp (c x) id) fun x z y => ?_
      rcases y with y | y
      · exact d2 x z y
      · exact d x (b x z) y
end
/-! ### what a dict answers -/
section
variable {X : Cx} {Z H : Hp} {σ : L2.St} {v u : V} {x y o : O} {S T : AS} {Q : VK}
theorem dictO_ok (h : dictO x (er y) = some o) (rx : RO X.K Z H v x S) (ry : RO X.K Z H u y T) (zh : Ex Z H) : ∃ a w B, v = .ref a ∧ DGet H a u (some w) ∧ RO X.K Z H w o B ∧ (∀ x, B x → S x) := by
  have vy := ry.view zh
  unfold dictO at h
  split at h
  · obtain ⟨k, e1, e2⟩ := Option.bind_eq_some_iff.mp h
    cases rx with
    | dk h1 _ h3 h4 _ =>
      obtain ⟨w, B, g1, g2, g3, _⟩ := (h3.get (k := k)).2 o e2
      exact ⟨_, w, B, rfl, .inl ⟨_, k, .inl h1, key_rd vy e1, by rw [valV_get1, g1]⟩, g2, fun x z => h4 x (g3 x z)⟩
  · obtain ⟨k, e1, e2⟩ := Option.bind_eq_some_iff.mp h
    cases rx with
    | dt h1 _ h3 h4 _ =>
      obtain ⟨w, B, g1, g2, g3⟩ := (h3.get (k := k)).2 o e2
      obtain ⟨b, eb, hb⟩ := keyT_rd vy e1
      exact ⟨_, w, B, rfl, .inr ⟨_, k, b, .inl h1, eb, hb, by rw [valV_get1, g1]⟩, g2, fun x z => h4 x (g3 x z)⟩
  · obtain ⟨d, e1, e2⟩ := Option.map_eq_some_iff.mp h
    subst e2
    split at e1
    · rename_i k hk
      cases rx.rd0 with
      | dk h1 h2 =>
        obtain ⟨w, g1, g2⟩ := (h2.get (k := k)).1 d e1
        exact ⟨_, w, fun _ => False, rfl, .inl ⟨_, k, .inl (zh _ _ h1), key_rd vy hk, by rw [valV_get1, g1]⟩, .fz g2, fun _ z => z.elim⟩
      | lk h1 h2 =>
        unfold fget at e1
        rw [show keyOf .none = none from rfl, if_neg (fun z => by cases z)] at e1
        obtain ⟨w, g1, g2⟩ := (h2.get (k := k)).1 d e1
        exact ⟨_, w, fun _ => False, rfl, .inl ⟨_, k, .inr ⟨_, zh _ _ h1⟩, key_rd vy hk, by rw [valV_get1, g1]⟩, .fz g2, fun _ z => z.elim⟩
      | dt h1 h2 => rw [h2.noK] at e1; cases e1
      | exc => cases e1
    · rename_i hk
      obtain ⟨ks, e2, e3⟩ := Option.bind_eq_some_iff.mp e1
      cases rx.rd0 with
      | dk h1 h2 => rw [h2.noT] at e3; cases e3
      | dt h1 h2 =>
        obtain ⟨w, g1, g2⟩ := (h2.get (k := ks)).1 d e3
        obtain ⟨b, eb, hb⟩ := keyT_rd vy e2
        exact ⟨_, w, fun _ => False, rfl, .inr ⟨_, ks, b, .inl (zh _ _ h1), eb, hb, by rw [valV_get1, g1]⟩, .fz g2, fun _ z => z.elim⟩
      | lk h1 h2 =>
        unfold fgetT at e3
        rw [show keyTO .none = none from rfl, if_neg (fun z => by cases z), h2.noT] at e3
        cases e3
      | exc => cases e3
  · cases h
theorem dinO_ok {d : PyData} {r : Bool} (h : dinO d y = some r) (vx : RD X.K H H v d) (ry : RO X.K Z H u y T) (zh : Ex Z H) : ∃ a w, u = .ref a ∧ DGet H a v w ∧ w.isSome = r := by
  unfold dinO at h
  split at h
  · obtain ⟨k, e1, e2⟩ := Option.map_eq_some_iff.mp h
    cases ry with
    | dk h1 _ h3 h4 _ => exact ⟨_, _, rfl, .inl ⟨_, k, .inl h1, key_rd vx e1, rfl⟩, by rw [valV_get1, (h3.get (k := k)).1, e2]⟩
  · obtain ⟨k, e1, e2⟩ := Option.map_eq_some_iff.mp h
    cases ry with
    | dt h1 _ h3 h4 _ =>
      obtain ⟨b, eb, hb⟩ := keyT_rd vx e1
      exact ⟨_, _, rfl, .inr ⟨_, k, b, .inl h1, eb, hb, rfl⟩, by rw [valV_get1, (h3.get (k := k)).1, e2]⟩
  · split at h
    · rename_i k0 hk0
      obtain ⟨k, e1, e2⟩ := Option.map_eq_some_iff.mp h
      cases ry.rd0 with
      | dk h1 h2 => exact ⟨_, _, rfl, .inl ⟨_, k, .inl (zh _ _ h1), key_rd vx e1, rfl⟩, by rw [valV_get1, (h2.get (k := k)).2, e2]⟩
      | dt h1 h2 => cases h2; cases hk0
      | lk h1 h2 => cases hk0
      | exc => cases hk0
    · rename_i k0 hk0 hk1
      obtain ⟨k, e1, e2⟩ := Option.map_eq_some_iff.mp h
      cases ry.rd0 with
      | dk h1 h2 => cases h2; rw [keyTO_keyD] at hk1; cases hk1
      | dt h1 h2 =>
        obtain ⟨b, eb, hb⟩ := keyT_rd vx e1
        exact ⟨_, _, rfl, .inr ⟨_, k, b, .inl (zh _ _ h1), eb, hb, rfl⟩, by rw [valV_get1, (h2.get (k := k)).2, e2]⟩
      | lk h1 h2 => cases hk1
      | exc => cases hk1
    · rename_i hk0 hk1
      split at h
      · obtain ⟨k, e1, e2⟩ := Option.map_eq_some_iff.mp h
        cases ry.rd0 with
        | dk h1 h2 =>
          obtain ⟨kk, ek⟩ := RDk.keys0 h2
          have ek' : PyData.none = keyD kk := ek
          cases kk <;> cases ek'
        | dt h1 h2 =>
          obtain ⟨kk, ek⟩ := RDt.keys0 h2
          have ek' : PyData.none = keyTD kk := ek
          cases ek'
        | lk h1 h2 => exact ⟨_, _, rfl, .inl ⟨_, k, .inr ⟨_, zh _ _ h1⟩, key_rd vx e1, rfl⟩, by rw [valV_get1, (h2.get (k := k)).2, e2]⟩
      · cases h
  · cases h
theorem opV_din (hu : X.A.units + 1 < cLine) {a : Addr} {o : Option V} (g : DGet H a v o) (q : Q (.bl o.isSome) H) : OpV X (compareOp .In) σ v (.ref a) H Q := by
  intro pins s fv fu I rx ry
  cases (show fu = Value.ref a from ry)
  exact d_in hu I g rx fun s' I' => ⟨.bl o.isSome, H, I', rfl, q⟩
theorem opV_dnin (hu : X.A.units + 1 < cLine) {a : Addr} {o : Option V} (g : DGet H a v o) (q : Q (.bl (!o.isSome)) H) : OpV X (compareOp .NotIn) σ v (.ref a) H Q := by
  intro pins s fv fu I rx ry
  cases (show fu = Value.ref a from ry)
  exact d_notIn hu I g rx fun s' I' => ⟨.bl (!o.isSome), H, I', rfl, q⟩
end
/-- d[k] = v, or l[i] = v -/
def rSetD : TSet := fun o i v H Q =>
  (∃ a kvs k, o = .ref a ∧ H a = some (.dK kvs) ∧ i = kV k ∧ kvs.length < sizeLine ∧ Q (upd H a (.dK (put1 kvs k v)))) ∨
  ∃ a kvs k b, o = .ref a ∧ H a = some (.dT kvs) ∧ i = .ref b ∧ H b = some (.tup (k.map kV)) ∧ kvs.length < sizeLine ∧ Q (upd H a (.dT (put1 kvs k v)))
theorem set_dict {X : Cx} (hu : X.A.units + 1 < cLine) : PSet X rSetD := by
  intro pins s σ H o i v ov iv u Q I ro ri rv h
  rcases h with ⟨a, kvs, k, rfl, e, rfl, l, q⟩ | ⟨a, kvs, k, b, rfl, e, rfl, eb, l, q⟩
  · cases (show ov = Value.ref a from ro)
    obtain ⟨z, hd, vs, rel, dd⟩ := dk_of I.hok e
    have nd : (kvs.map (·.1)).Nodup := by
      rw [rel.keys]
      obtain ⟨_, _, _, _, _, _, _, _, n⟩ := dd
      exact n
    rw [← putK_put1 nd] at q
    exact d_setItem hu I (.k e l) ri rv fun s' I' => ⟨_, I', q⟩
  · cases (show ov = Value.ref a from ro)
    obtain ⟨z, hd, xs, rel, dd⟩ := dt_of I.hok e
    have nd : (kvs.map (·.1)).Nodup := by
      have ek : kvs.map (·.1) = xs.map (·.1) := by
        clear dd hd z e l q eb ri
        induction rel with
        | nil => rfl
        | cons h _ ih => rw [List.map_cons, List.map_cons, ih, h.1]
      rw [ek]
      obtain ⟨_, _, _, _, _, _, _, _, n⟩ := dd
      exact n
    rw [← putK_put1 nd] at q
    exact d_setItem hu I (.t e eb l) ri rv fun s' I' => ⟨_, I', q⟩
theorem set_or {X : Cx} {t t' : TSet} (h : PSet X t) (h' : PSet X t') : PSet X (fun o i v H Q => t o i v H Q ∨ t' o i v H Q) := by
  intro pins s σ H o i v ov iv u Q I ro ri rv q
  rcases q with q | q
  · exact h pins s σ H o i v ov iv u Q I ro ri rv q
  · exact h' pins s σ H o i v ov iv u Q I ro ri rv q
end Rim
namespace Rim
open PySem PySem.Spec PyProof.Rows L2

def opA : Bop → Operator
  | .add => .Add | .sub => .Sub | .mul => .Mult | .fdiv => .FloorDiv | .mod => .Mod | .pow => .Pow
def cpA : Cop → CmpOp
  | .eq => .Eq | .ne => .NotEq | .lt => .Lt | .le => .LtE | .gt => .Gt | .ge => .GtE | .isn => .Is | .isnt => .IsNot | .isin => .In | .notin => .NotIn

section
variable {K : PySem.W.Frag} {Z H : Hp} {v u : V} {S T : AS} {i j : Int} {o x y : O}
theorem RO.int (h : RO K Z H v (.fz (.int i)) S) : v = .int i := by
  cases h with
  | fz h => cases h; rfl
theorem RO.str {z : Str} (h : RO K Z H v (.fz (.str z)) S) : v = .str z := by
  cases h with
  | fz h => cases h; rfl
theorem RO.bl {z : Bool} (h : RO K Z H v (.fz (.bool z)) S) : v = .bl z := by
  cases h with
  | fz h => cases h; rfl
theorem RO.rd {d : PyData} (h : RO K Z H v (.fz d) S) : RD K Z H v d := by
  cases h with
  | fz h => exact h
theorem fzs_ok : ∀ {os : List O} {ds : List PyData} {vs : List V} {S : AS}, fzs os = some ds → ROs K Z H vs os S → RDs K Z H vs ds
  | [], ds, vs, S, h, r => by
    cases r
    have e1 : ([] : List PyData) = ds := Option.some.inj h
    subst e1
    exact .nil
  | .fz d :: os, ds, vs, S, h, r => by
    have h' : (fzs os).map (d :: ·) = some ds := h
    obtain ⟨es, e1, e2⟩ := Option.map_eq_some_iff.mp h'
    subst e2
    cases r with
    | cons r1 r2 _ _ _ => exact .cons r1.rd (fzs_ok e1 r2)
  | .lst _ :: os, ds, vs, S, h, r => nomatch h
  | .tup _ :: os, ds, vs, S, h, r => nomatch h
  | .dk _ :: os, ds, vs, S, h, r => nomatch h
  | .dt _ :: os, ds, vs, S, h, r => nomatch h
theorem listOf_ok {ds : List PyData} (h : listOf x = some ds) (r : RO K Z H v x S) (zh : Ex Z H) : ∃ l xs, v = .ref l ∧ SqL K H l xs ∧ RDs K Z H xs ds := by
  cases x with
  | fz d =>
    cases d with
    | list es =>
      have e1 : es = ds := Option.some.inj h
      subst e1
      cases r.rd with
      | lst h1 h2 => exact ⟨_, _, rfl, sqL_ex zh h1, h2⟩
    | _ => exact nomatch h
  | lst os =>
    cases r with
    | lst h1 _ h3 _ _ => exact ⟨_, _, rfl, .inl (.inl h1), fzs_ok h h3⟩
  | tup _ => exact nomatch h
  | dk _ => exact nomatch h
  | dt _ => exact nomatch h
theorem RDs.length : ∀ {vs : List V} {ds : List PyData}, RDs K Z H vs ds → vs.length = ds.length
  | _, _, .nil => rfl
  | _, _, .cons _ r => by rw [List.length_cons, List.length_cons, RDs.length r]
theorem ROs.length : ∀ {vs : List V} {ds : List O} {S : AS}, ROs K Z H vs ds S → vs.length = ds.length
  | _, _, _, .nil => rfl
  | _, _, _, .cons _ r _ _ _ => by rw [List.length_cons, List.length_cons, ROs.length r]
theorem RDs.append : ∀ {vs ws : List V} {ds es : List PyData}, RDs K Z H vs ds → RDs K Z H ws es → RDs K Z H (vs ++ ws) (ds ++ es)
  | _, _, _, _, .nil, b => b
  | _, _, _, _, .cons h r, b => .cons h (RDs.append r b)
theorem RDs.take : ∀ (n : Nat) {vs : List V} {ds : List PyData}, RDs K Z H vs ds → RDs K Z H (vs.take n) (ds.take n)
  | 0, _, _, _ => .nil
  | _ + 1, _, _, .nil => .nil
  | n + 1, _, _, .cons h r => .cons h (RDs.take n r)
theorem RDs.drop : ∀ (n : Nat) {vs : List V} {ds : List PyData}, RDs K Z H vs ds → RDs K Z H (vs.drop n) (ds.drop n)
  | 0, _, _, h => h
  | _ + 1, _, _, .nil => .nil
  | n + 1, _, _, .cons h r => RDs.drop n r
theorem RDs.reverse {vs : List V} {ds : List PyData} (h : RDs K Z H vs ds) : RDs K Z H vs.reverse ds.reverse := by
  induction ds generalizing vs with
  | nil => cases h; exact .nil
  | cons d ds ih =>
    cases h with
    | cons h1 h2 =>
      rw [List.reverse_cons, List.reverse_cons]
      exact (ih h2).append (.cons h1 .nil)
theorem RDs.get : ∀ {vs : List V} {ds : List PyData} {i : Nat} {d : PyData}, RDs K Z H vs ds → ds[i]? = some d → ∃ v, vs[i]? = some v ∧ RD K Z H v d
  | _, _, _, _, .nil, q => by simp at q
  | _, _, 0, _, .cons h _, q => by
    have e1 := Option.some.inj q
    subst e1
    exact ⟨_, rfl, h⟩
  | _, _, i + 1, _, .cons _ r, q => by
    obtain ⟨v, a, b⟩ := RDs.get (i := i) r q
    exact ⟨v, a, b⟩
theorem ROs.get : ∀ {vs : List V} {os : List O} {S : AS} {i : Nat} {o : O}, ROs K Z H vs os S → os[i]? = some o → ∃ v T, vs[i]? = some v ∧ RO K Z H v o T ∧ ∀ x, T x → S x
  | _, _, _, _, _, .nil, q => by simp at q
  | _, _, _, 0, _, .cons h _ b _ _, q => by
    have e1 := Option.some.inj q
    subst e1
    exact ⟨_, _, rfl, h, b⟩
  | _, _, _, i + 1, _, .cons _ r _ c _, q => by
    obtain ⟨v, T, a, b, d⟩ := ROs.get (i := i) r q
    exact ⟨v, T, a, b, fun x z => c x (d x z)⟩
theorem atI_len {α β : Type} {xs : List α} {ys : List β} (h : xs.length = ys.length) {i : Int} {y : β} (q : atI ys i = some y) : ∃ j : Nat, ys[j]? = some y ∧ ∀ x, xs[j]? = some x → atI xs i = some x := by
  unfold atI at q ⊢
  rw [h]
  cases r : ixN ys.length i with
  | none => rw [r] at q; cases q
  | some j => rw [r] at q; exact ⟨j, q, fun x e => e⟩
end

/-! ### lists, exact or locked -/
section
variable {X : Cx} {pins : List (Addr × Obj)} {σ : L2.St} {H Z : Hp} {s : Shared} {l : Addr} {xs : List V}
def rCatR (K : PySem.W.Frag) : R2 := fun x y H Q => ∃ l b xs zs, x = .ref l ∧ y = .ref b ∧ SqL K H l xs ∧ SqL K H b zs ∧ xs.length + zs.length ≤ sizeLine ∧ ∀ p, H p = none → Q (.ref p) (upd H p (.lst (xs ++ zs)))
theorem op_catR : OpR X (binaryOp .Add) (rCatR X.K) := by
  intro pins s σ H x y fv fu Q I rx ry ⟨l, b, xs, zs, ex, ey, hl, hb, room, goal⟩
  subst ex
  subst ey
  cases rx
  cases ry
  obtain ⟨i1, v1, ⟨⟨c1, d1, dt1, s1⟩, n1, g1, hc1, hd1, hq1⟩, _⟩ := I.list hl
  obtain ⟨i2, v2, ⟨⟨c2, d2, dt2, s2⟩, n2, g2, hc2, hd2, hq2⟩, _⟩ := I.list hb
  simp only at hc1 hd1 hq1 hc2 hd2 hq2
  subst hc1 hd1 hq1 hc2 hd2 hq2
  have k1 := v1.length
  have k2 := v2.length
  refine concat_meets ⟨_, g1, rfl⟩ ⟨_, g2, rfl⟩ noFill_list_add seq_list_add PySem.F.slot_list_add PySem.F.entry_list_add (PySem.F.args_list_add_2 _ _) (list_addW l b i1.toArray i2.toArray n1 n2 none none s1 s2 (by simp only [List.size_toArray]; omega)) ⟨g1, g2, ?_⟩
  rw [show i1.toArray ++ i2.toArray = (i1 ++ i2).toArray by simp]
  have I2 := I.lnew (t' := s.toks) (v1.append v2) (by simp only [List.length_append]; omega)
  exact ⟨V.ref _, _, I2, rfl, goal _ I.fresh⟩
mutual
theorem RD.dp {K : PySem.W.Frag} : ∀ {v : V} {d : PyData}, RD K H H v d → PyData.canLay0 d = true → Dp K H v d
  | _, _, .non, _ => .non
  | _, _, .bl b, _ => .bl b
  | _, _, .int i, _ => .int i
  | _, _, .str x, _ => .str x
  | _, _, .lst h r, q => .lst h (RDs.dp r (by simpa [PyData.canLay0] using q))
  | _, _, .tup h r, q => .tup h.sq (RDs.dp r (by simpa [PyData.canLay0] using q))
  | _, _, .dk h r, q => by simp [PyData.canLay0] at q
  | _, _, .dt h r, q => by simp [PyData.canLay0] at q
  | _, _, .lk h r, q => by simp [PyData.canLay0] at q
  | _, _, .exc .., q => by simp [PyData.canLay0] at q
theorem RDs.dp {K : PySem.W.Frag} : ∀ {v : List V} {d : List PyData}, RDs K H H v d → PyData.canLayAll0 d = true → DpAll K H v d
  | _, _, .nil, _ => .nil
  | _, _, .cons (d := d) (ds := ds) h r, q => by
    have q' : PyData.canLay0 d = true ∧ PyData.canLayAll0 ds = true := by simpa [PyData.canLayAll0] using q
    exact .cons (RD.dp h q'.1) (RDs.dp r q'.2)
end

/-- .. more than once -/
theorem foldl_app {α : Type} (x : Array α) : ∀ (n : Nat) (acc : Array α), ((List.replicate n x).foldl (· ++ ·) acc) = acc ++ (List.replicate n x.toList).flatten.toArray
  | 0, acc => by simp
  | n + 1, acc => by
    rw [List.replicate_succ, List.foldl_cons, foldl_app x n, List.replicate_succ, List.flatten_cons, Array.append_assoc]
    congr 1
    apply Array.ext'
    simp
theorem op_mulS2 : OpR X (binaryOp .Mult) (fun x y H Q => ∃ (z : Str) (j : Int), x = .str z ∧ y = .int j ∧ 1 < j ∧ j < 1000 ∧ 0 < z.length ∧ z.length * j.toNat ≤ 1000 ∧ Q (.str (strMul z j.toNat)) H) := by
  intro pins s σ H x y fv fu Q I rx ry ⟨z, j, ex, ey, h1, h2, h3, h4, goal⟩
  subst ex
  subst ey
  obtain ⟨t, rfl⟩ := rx
  obtain ⟨u, rfl⟩ := ry
  have hr : (decide (j < -(2 ^ 63 : Int)) || decide (j ≥ 2 ^ 63)) = false := by
    rw [decide_eq_false (by omega), decide_eq_false (by omega)]
    rfl
  have hz : (j == 1 || z.length == 0) = false := by
    rw [Bool.or_eq_false_iff]
    exact ⟨by simpa using (by omega : ¬ j = 1), by simpa using (by omega : ¬ z.length = 0)⟩
  have hd : (z.length : Int) ≤ (2 ^ 63 - 1) / j := by
    rw [Int.le_ediv_iff_mul_le (by omega)]
    have h5 : z.length ≤ 1000 := Nat.le_trans (Nat.le_mul_of_pos_right _ (by omega)) h4
    have h6 : (z.length : Int) * j ≤ 1000 * 1000 := Int.mul_le_mul (by omega) (by omega) (by omega) (by omega)
    omega
  have hsl : sizeLine = 16777216 := by decide
  have el : (strMul z j.toNat).length = z.length * j.toNat := by
    show (List.replicate j.toNat z.cps.toList).flatten.toArray.size = z.cps.size * j.toNat
    rw [List.size_toArray, List.length_flatten, List.map_replicate, List.sum_replicate_nat, Array.length_toList, Nat.mul_comm]
  have em : (⟨(List.replicate j.toNat z.cps).foldl (· ++ ·) #[]⟩ : Str) = strMul z j.toNat := by
    unfold strMul
    rw [foldl_app]
    simp
  refine PySem.P.mul_str hr (fun _ _ => by omega) (fun _ _ => ?_) ?_
  · unfold Builtin.Str.tooLong
    exact decide_eq_false (by omega)
  · rw [if_neg (by omega), if_neg (by rw [hz]; decide), em]
    exact ⟨by rw [el]; omega, V.str _, _, I.tok _, ⟨_, rfl⟩, goal⟩
/-- a text, once or not at all -/
theorem op_mulS : OpR X (binaryOp .Mult) (fun x y H Q => ∃ (z : Str) (j : Int), x = .str z ∧ y = .int j ∧ j.natAbs ≤ 1 ∧ Q (.str (if j < 1 then Str.empty else z)) H) := by
  intro pins s σ H x y fv fu Q I rx ry ⟨z, j, ex, ey, hj, goal⟩
  subst ex
  subst ey
  obtain ⟨t, rfl⟩ := rx
  obtain ⟨u, rfl⟩ := ry
  have h1 : (decide (j < -(2 ^ 63 : Int)) || decide (j ≥ 2 ^ 63)) = false := by
    rw [decide_eq_false (by omega), decide_eq_false (by omega)]
    rfl
  by_cases h : j < 1
  · refine PySem.P.mul_str h1 (fun q => absurd h q) (fun q => absurd h q) ?_
    rw [if_pos h]
    rw [if_pos h] at goal
    exact ⟨by decide, V.str _, _, I.tok _, ⟨_, rfl⟩, goal⟩
  · have ej : j = 1 := by omega
    subst ej
    refine PySem.P.mul_str h1 (fun _ q => nomatch q) (fun _ q => nomatch q) ?_
    rw [if_neg h, if_pos (by simp)]
    rw [if_neg h] at goal
    exact ⟨V.str _, _, I, ⟨_, rfl⟩, goal⟩

/-! ### two operands -/
def DivG (_ j : Int) : Prop := j ≠ 0 ∧ j.natAbs.log2 < 9000
theorem op_fdivG : OpR X (binaryOp .FloorDiv) (rI DivG fun i j => .int (i.fdiv j)) :=
  opI fun i j _ _ _ _ _ cd goal => floordiv_int cd.1 goal (.inl (PyProof.noPylong_of_log2 cd.2))
theorem room_le {n : Nat} (h : strRoom n = true) : n ≤ sizeLine := Nat.le_of_ble_eq_true h
theorem cmulB_ok {i j : Int} (h : cmulB i j = true) : CMulX i j := by
  unfold CMulX
  have := Nat.le_of_ble_eq_true h
  omega

theorem binO_ok {op : Bop} {x y o : O} (h : binO op x y = some o) {v u : V} {S T : AS} (rx : RO X.K Z H v x S) (ry : RO X.K Z H u y T) (zh : Ex Z H) {Q : VK} (k : ∀ w H' Sw, NP X.K Z H w o H' Sw → Q w H') : OpV X (binaryOp (opA op)) σ v u H Q := by
  unfold binO at h
  split at h
  · cases h
    cases rx.int; cases ry.int
    exact opV_of op_add ⟨_, _, rfl, rfl, k _ _ _ (.flat (.int _))⟩
  · cases h
    cases rx.int; cases ry.int
    exact opV_of op_sub ⟨_, _, rfl, rfl, k _ _ _ (.flat (.int _))⟩
  · split at h
    · rename_i c
      cases h
      cases rx.int; cases ry.int
      exact opV_of op_mulX ⟨_, _, rfl, rfl, cmulB_ok c, k _ _ _ (.flat (.int _))⟩
    · cases h
  · split at h
    · rename_i c
      cases h
      cases rx.str; cases ry.int
      exact opV_of op_mulS ⟨_, _, rfl, rfl, Nat.le_of_ble_eq_true c, k _ _ _ (.flat (.str _))⟩
    · split at h
      · rename_i c
        cases h
        cases rx.str; cases ry.int
        simp only [Bool.and_eq_true, decide_eq_true_eq] at c
        exact opV_of op_mulS2 ⟨_, _, rfl, rfl, c.1.1.1, c.1.1.2, c.1.2, Nat.le_of_ble_eq_true c.2, k _ _ _ (.flat (.str _))⟩
      · cases h
  · split at h
    · rename_i c
      cases h
      cases rx.int; cases ry.int
      have c' := Bool.and_eq_true_iff.mp c
      exact opV_of op_fdivW ⟨_, _, rfl, rfl, ⟨of_decide_eq_true c'.1, of_decide_eq_true c'.2⟩, k _ _ _ (.flat (.int _))⟩
    · split at h
      · rename_i c
        cases h
        cases rx.int; cases ry.int
        have c' := Bool.and_eq_true_iff.mp c
        have neg := of_decide_eq_true c'.1
        exact opV_of op_fdivG ⟨_, _, rfl, rfl, ⟨by omega, of_decide_eq_true c'.2⟩, k _ _ _ (.flat (.int _))⟩
      · cases h
  · split at h
    · rename_i c
      cases h
      cases rx.int; cases ry.int
      exact opV_of op_mod ⟨_, _, rfl, rfl, of_decide_eq_true c, k _ _ _ (.flat (.int _))⟩
    · cases h
  · split at h
    · rename_i c
      cases h
      cases rx.int; cases ry.int
      unfold cpowB at c
      simp only [Bool.and_eq_true, decide_eq_true_eq] at c
      exact opV_of op_pow ⟨_, _, rfl, rfl, ⟨c.1.1, c.1.2, c.2⟩, k _ _ _ (.flat (.int _))⟩
    · cases h
  · split at h
    · rename_i c
      cases h
      cases rx.str; cases ry.str
      exact opV_of op_add_str ⟨_, _, rfl, rfl, room_le c, k _ _ _ (.flat (.str _))⟩
    · cases h
  · split at h
    · rename_i xs ys c
      cases h
      simp only [Bool.and_eq_true, Bool.not_eq_true', List.isEmpty_eq_false_iff] at c
      cases rx.rd with
      | tup g1 r1 =>
        cases ry.rd with
        | tup g2 r2 =>
          rename_i a vs b us
          have n1 : vs ≠ [] := fun z => by rw [z] at r1; cases r1; exact c.1.1 rfl
          have n2 : us ≠ [] := fun z => by rw [z] at r2; cases r2; exact c.1.2 rfl
          refine opV_of op_catT ⟨a, b, vs, us, rfl, rfl, g1.sq, g2.sq, n1, by rw [r1.length, r2.length]; exact room_le c.2, fun z => absurd z n2, fun _ p hp => k _ _ (fun _ => False) ⟨ex_new hp, fun _ z => z.elim, .fz (.tup (show TpX _ _ _ from upd_same) ((r1.append r2).mono (Ex.refl _) (ex_new hp).tx))⟩⟩
    · cases h
  · split at h
    · rename_i ds es e1 e2
      split at h
      · rename_i c
        cases h
        obtain ⟨l, xs, rfl, h1, r1⟩ := listOf_ok e1 rx zh
        obtain ⟨b, ys, rfl, h2, r2⟩ := listOf_ok e2 ry zh
        refine opV_of op_catR ⟨l, b, xs, ys, rfl, rfl, h1, h2, ?_, fun p hp => k _ _ _ (.list (r1.append r2) hp)⟩
        rw [r1.length, r2.length]
        exact room_le c
      · cases h
    · cases h
  · cases h
theorem rd_non {K : PySem.W.Frag} {v : V} (h : RD K Z H v .none) : v = .non := by cases h; rfl
theorem isn_dec {K : PySem.W.Frag} {v : V} {d : PyData} (h : RD K Z H v d) : decide (v = .non) = isNonD d := by
  cases h <;> simp [isNonD]
theorem cmpO_ok {op : Cop} {x y : O} {r : Bool} (h : cmpO op x y = some r) (hu : X.A.units + 65 < cLine) {v u : V} {S T : AS} (rx : RO X.K Z H v x S) (ry : RO X.K Z H u y T) (zh : Ex Z H) {Q : VK} (k : Q (.bl r) H) : OpV X (compareOp (cpA op)) σ v u H Q := by
  have vx := rx.view zh
  have vy := ry.view zh
  have hu2 : X.A.units + 64 < cLine := by omega
  unfold cmpO at h
  revert h
  generalize er x = dx at vx
  generalize er y = dy at vy
  intro h
  split at h
  · cases h; cases vx; cases vy
    refine opV_of op_eq ⟨rfl, ?_⟩
    simpa using k
  · cases h; cases vx; cases vy
    refine opV_of op_ne ⟨rfl, ?_⟩
    simpa using k
  · cases h; cases vx; cases vy
    refine opV_of op_eq ⟨rfl, ?_⟩
    simpa using k
  · cases h; cases vx; cases vy
    refine opV_of op_ne ⟨rfl, ?_⟩
    simpa using k
  · split at h
    · rename_i c
      cases h
      have c' := Bool.and_eq_true_iff.mp c
      exact opV_of (op_eqD hu2) ⟨_, _, vx.dp (SeqAt.canLay_of_shaped c'.1), vy.dp (SeqAt.canLay_of_shaped c'.2), c'.1, c'.2, k⟩
    · cases h
  · split at h
    · rename_i c
      cases h
      have c' := Bool.and_eq_true_iff.mp c
      exact opV_of (op_neD hu2) ⟨_, _, vx.dp (SeqAt.canLay_of_shaped c'.1), vy.dp (SeqAt.canLay_of_shaped c'.2), c'.1, c'.2, k⟩
    · cases h
  · cases h; cases vx; cases vy
    exact opV_of op_lt ⟨_, _, rfl, rfl, k⟩
  · cases h; cases vx; cases vy
    exact opV_of op_le ⟨_, _, rfl, rfl, k⟩
  · cases h; cases vx; cases vy
    exact opV_of op_gt ⟨_, _, rfl, rfl, k⟩
  · cases h; cases vx; cases vy
    exact opV_of op_ge ⟨_, _, rfl, rfl, k⟩
  · cases h; cases rd_non vy
    rw [← isn_dec vx] at k
    exact opV_of op_isN ⟨rfl, k⟩
  · cases h; cases rd_non vy
    rw [← isn_dec vx] at k
    exact opV_of op_notN ⟨rfl, k⟩
  · split at h
    · rename_i c
      cases h
      have c' := Bool.and_eq_true_iff.mp c
      exact opV_of (op_inD hu) ⟨_, _, vx.dp (SeqAt.canLay_of_shaped c'.1), vy.dp (SeqAt.canLay_of_shaped c'.2), c'.1, c'.2, k⟩
    · cases h
  · split at h
    · rename_i c
      cases h
      have c' := Bool.and_eq_true_iff.mp c
      exact opV_of (op_notInD hu) ⟨_, _, vx.dp (SeqAt.canLay_of_shaped c'.1), vy.dp (SeqAt.canLay_of_shaped c'.2), c'.1, c'.2, k⟩
    · cases h
  · obtain ⟨ss, e1, e2⟩ := Option.map_eq_some_iff.mp h
    subst e2
    cases vx
    cases vy with
    | tup g1 g2 =>
      have := txt_rds g2 e1
      subst this
      rw [← in_txt] at k
      exact opV_of op_in_seq ⟨_, _, rfl, .inr g1.sq, rfl, all_txt, k⟩
  · obtain ⟨ss, e1, e2⟩ := Option.map_eq_some_iff.mp h
    subst e2
    cases vx
    cases vy with
    | tup g1 g2 =>
      have := txt_rds g2 e1
      subst this
      rw [← in_txt] at k
      exact opV_of op_notIn_seq ⟨_, _, rfl, .inr g1.sq, rfl, all_txt, k⟩
  · obtain ⟨a, w, rfl, g1, g2⟩ := dinO_ok h vx ry zh
    rw [← g2] at k
    exact opV_din (by omega) g1 k
  · obtain ⟨r', h', rfl⟩ := Option.map_eq_some_iff.mp h
    obtain ⟨a, w, rfl, g1, g2⟩ := dinO_ok h' vx ry zh
    rw [← g2] at k
    exact opV_dnin (by omega) g1 k
  · cases h

/-! ### items, slices -/
/-- the item's tree at a value: T bounds what it owns -/
theorem seqO_ok {x o : O} {i : Int} (h : seqO x (.int i) = some o) {v : V} {S : AS} (rx : RO X.K Z H v x S) (zh : Ex Z H) : ∃ w T, RO X.K Z H w o T ∧ (∀ a, T a → S a) ∧ (isFz x = true → isFz o = true) ∧
    ∀ Q : VK, Q w H → rIx X.K v (.int i) H Q := by
  unfold seqO at h
  split at h
  · rename_i ds j e1
    cases e1
    obtain ⟨d, e2, e3⟩ := Option.map_eq_some_iff.mp h
    subst e3
    cases rx.rd with
    | lst h1 h2 =>
      obtain ⟨j, g1, g2⟩ := atI_len h2.length e2
      obtain ⟨w, g3, g4⟩ := h2.get g1
      exact ⟨w, fun _ => False, .fz g4, fun _ q => q.elim, fun _ => rfl, fun Q q => .inl ⟨_, _, _, _, rfl, rfl, sqL_ex zh h1, g2 w g3, q⟩⟩
  · rename_i ds j e1
    cases e1
    obtain ⟨d, e2, e3⟩ := Option.map_eq_some_iff.mp h
    subst e3
    cases rx.rd with
    | tup h1 h2 =>
      obtain ⟨j, g1, g2⟩ := atI_len h2.length e2
      obtain ⟨w, g3, g4⟩ := h2.get g1
      exact ⟨w, fun _ => False, .fz g4, fun _ q => q.elim, fun _ => rfl, fun Q q => .inr (.inl ⟨_, _, _, _, rfl, rfl, h1.sq, g2 w g3, q⟩)⟩
  · rename_i os j e1
    cases e1
    cases rx with
    | lst h1 _ h3 h4 _ =>
      obtain ⟨j, g1, g2⟩ := atI_len h3.length h
      obtain ⟨w, T, g3, g4, g5⟩ := h3.get g1
      exact ⟨w, T, g4, fun a q => h4 a (g5 a q), (fun q => nomatch q), fun Q q => .inl ⟨_, _, _, _, rfl, rfl, .inl (.inl h1), g2 w g3, q⟩⟩
  · rename_i os j e1
    cases e1
    cases rx with
    | tup h1 h3 =>
      obtain ⟨j, g1, g2⟩ := atI_len h3.length h
      obtain ⟨w, T, g3, g4, g5⟩ := h3.get g1
      exact ⟨w, T, g4, g5, (fun q => nomatch q), fun Q q => .inr (.inl ⟨_, _, _, _, rfl, rfl, h1.sq, g2 w g3, q⟩)⟩
  · rename_i z j e1
    cases e1
    split at h
    · rename_i c
      obtain ⟨d, e2, e3⟩ := Option.map_eq_some_iff.mp h
      subst e3
      cases rx.str
      exact ⟨_, fun _ => False, .fz (.str _), fun _ q => q.elim, fun _ => rfl, fun Q q => .inr (.inr ⟨_, _, _, rfl, rfl, room_le c, e2, q⟩)⟩
    · cases h
  · cases h
theorem seqO_key {x o : O} {k : PyData} (h : seqO x k = some o) : ∃ i, k = .int i := by
  unfold seqO at h
  split at h <;> first | exact ⟨_, rfl⟩ | cases h
theorem seqO_okE {x o : O} {i : Int} (h : seqO x (.int i) = some o) {v : V} {S : AS} (rx : RO X.K Z H v x S) (zh : Ex Z H) : ∃ w T, RO X.K Z H w o T ∧ (∀ a, T a → S a) ∧ ∀ Q : VK, Q w H → rIx X.K v (.int i) H Q := by
  obtain ⟨w, T, a, b, _, c⟩ := seqO_ok h rx zh
  exact ⟨w, T, a, b, c⟩
theorem cutD_rd {K : PySem.W.Frag} {xs : List V} {ds : List PyData} (lo hi : Option Int) (h : RDs K Z H xs ds) : RDs K Z H (cutV xs lo hi) (cutD ds lo hi) := by
  unfold cutV cutD
  rw [h.length]
  exact (h.drop _).take _
theorem sliceO_ok {x o : O} {lo hi : Option Int} (h : sliceO x lo hi = some o) {v : V} {S : AS} (rx : RO X.K Z H v x S) (zh : Ex Z H) {Q : VK} (k : ∀ w H' Sw, NP X.K Z H w o H' Sw → Q w H') :
    (rSlL X.K v lo hi H Q ∨ rSlS v lo hi H Q) := by
  unfold sliceO at h
  split at h
  · split at h
    · rename_i c
      cases h
      cases rx.str
      exact .inr ⟨_, rfl, room_le c, k _ _ _ (.flat (.str _))⟩
    · cases h
  · split at h
    · rename_i ds e1
      cases h
      obtain ⟨l, xs, rfl, h1, r1⟩ := listOf_ok e1 rx zh
      exact .inl ⟨l, xs, rfl, h1, fun p hp => k _ _ _ (.list (cutD_rd lo hi r1) hp)⟩
    · cases h

/-! ### built-ins of one argument -/
def bl1V : Bl1 → Value
  | .len => .builtin "len" | .abs => .builtin "abs" | .int => .type "int" | .str => .type "str" | .sorted => .builtin "sorted" | .list => .type "list" | .all => .builtin "all" | .tuple => .type "tuple" | .min => .builtin "min" | .max => .builtin "max"
theorem intsOf_ok {K : PySem.W.Frag} : ∀ {ds : List PyData} {ns : List Int} {xs : List V}, intsOf ds = some ns → RDs K Z H xs ds → xs = ns.map V.int
  | [], ns, xs, h, r => by
    cases h
    cases r
    rfl
  | .int i :: ds, ns, xs, h, r => by
    have h' : (intsOf ds).map (i :: ·) = some ns := h
    obtain ⟨es, e1, e2⟩ := Option.map_eq_some_iff.mp h'
    subst e2
    cases r with
    | cons r1 r2 =>
      cases r1
      rw [intsOf_ok e1 r2]
      rfl
  | .none :: _, _, _, h, _ => nomatch h
  | .bool _ :: _, _, _, h, _ => nomatch h
  | .str _ :: _, _, _, h, _ => nomatch h
  | .list _ :: _, _, _, h, _ => nomatch h
  | .tuple _ :: _, _, _, h, _ => nomatch h
  | .dict _ :: _, _, _, h, _ => nomatch h
theorem foldl_min : ∀ (r : List Int) (n m : Int), m ∈ n :: r → (∀ y ∈ n :: r, m ≤ y) → r.foldl (fun m x => if x < m then x else m) n = m
  | [], n, m, h, _ => (List.mem_singleton.mp h).symm
  | x :: r, n, m, h, q => by
    rw [List.foldl_cons]
    have hn := q n (by simp)
    have hx := q x (by simp)
    refine foldl_min r _ m ?_ fun y hy => ?_
    · rcases List.mem_cons.mp h with z | z
      · subst z
        rw [if_neg (by omega)]
        simp
      · rcases List.mem_cons.mp z with z | z
        · subst z
          by_cases c : m < n
          · simp [c]
          · have : m = n := by omega
            simp [this]
        · exact List.mem_cons_of_mem _ z
    · rcases List.mem_cons.mp hy with z | z
      · rw [z]
        split <;> assumption
      · exact q y (by simp [z])
theorem foldl_max : ∀ (r : List Int) (n m : Int), m ∈ n :: r → (∀ y ∈ n :: r, y ≤ m) → r.foldl (fun m x => if m < x then x else m) n = m
  | [], n, m, h, _ => (List.mem_singleton.mp h).symm
  | x :: r, n, m, h, q => by
    rw [List.foldl_cons]
    have hn := q n (by simp)
    have hx := q x (by simp)
    refine foldl_max r _ m ?_ fun y hy => ?_
    · rcases List.mem_cons.mp h with z | z
      · subst z
        rw [if_neg (by omega)]
        simp
      · rcases List.mem_cons.mp z with z | z
        · subst z
          by_cases c : n < m
          · simp [c]
          · have : m = n := by omega
            simp [this]
        · exact List.mem_cons_of_mem _ z
    · rcases List.mem_cons.mp hy with z | z
      · rw [z]
        split <;> assumption
      · exact q y (by simp [z])
theorem rd_len {K : PySem.W.Frag} {v : V} {d : PyData} {n : Nat} (h : RD K Z H v d) (zh : Ex Z H) (e : (∃ ds, d = .list ds ∧ n = ds.length) ∨ ∃ ds, d = .tuple ds ∧ n = ds.length) : LenV K v H n := by
  rcases e with ⟨ds, rfl, rfl⟩ | ⟨ds, rfl, rfl⟩
  · cases h with
    | lst h1 h2 => exact .inl ⟨_, sqL_ex zh h1, h2.length.symm⟩
  · cases h with
    | tup h1 h2 => exact .inr ⟨_, h1.sq, h2.length.symm⟩
theorem bl1O_ok {f : Bl1} {x o : O} (hcm : bl1C f = true → X.calm = true) (h : bl1O f x = some o) {v : V} {S : AS} (rx : RO X.K Z H v x S) (zh : Ex Z H) {Q : VK} (k : ∀ w H' Sw, NP X.K Z H w o H' Sw → Q w H') : CallV X (bl1V f) σ [v] H Q := by
  unfold bl1O at h
  split at h
  · split at h
    · rename_i c
      cases h
      cases rx.str
      exact callV_of call_len ⟨_, _, rfl, ⟨room_le c, rfl⟩, k _ _ _ (.flat (.int _))⟩
    · cases h
  · cases h
    exact callV_of call_len ⟨_, _, rfl, rd_len rx.rd zh (.inl ⟨_, rfl, rfl⟩), k _ _ _ (.flat (.int _))⟩
  · cases h
    exact callV_of call_len ⟨_, _, rfl, rd_len rx.rd zh (.inr ⟨_, rfl, rfl⟩), k _ _ _ (.flat (.int _))⟩
  · cases h
    cases rx with
    | lst h1 _ h3 _ _ => exact callV_of call_len ⟨_, _, rfl, .inl ⟨_, .inl (.inl h1), h3.length.symm⟩, k _ _ _ (.flat (.int _))⟩
  · cases h
    cases rx with
    | tup h1 h3 => exact callV_of call_len ⟨_, _, rfl, .inr ⟨_, h1.sq, h3.length.symm⟩, k _ _ _ (.flat (.int _))⟩
  · cases h
    cases rx with
    | dk h1 _ h3 _ _ =>
      refine callV_of call_lenD ⟨_, _, rfl, h1, ?_⟩
      rw [h3.len]
      exact k _ _ _ (.flat (.int _))
  · cases h
    cases rx.int
    exact callV_of call_abs ⟨_, rfl, k _ _ _ (.flat (.int _))⟩
  · cases h
    cases rx.bl
    exact callV_of call_int1 (.inr ⟨_, rfl, k _ _ _ (.flat (.int _))⟩)
  · split at h
    · rename_i c
      cases h
      cases rx.int
      exact callV_of call_str_int ⟨_, rfl, of_decide_eq_true c, k _ _ _ (.flat (.str _))⟩
    · cases h
  · obtain ⟨ds, e1, h2⟩ := Option.bind_eq_some_iff.mp h
    obtain ⟨ns, e2, h3⟩ := Option.bind_eq_some_iff.mp h2
    obtain ⟨l, xs, rfl, g1, r1⟩ := listOf_ok e1 rx zh
    have g2 := intsOf_ok e2 r1
    subst g2
    cases ns with
    | nil => cases h3
    | cons n r =>
      cases h3
      refine callV_of (cr_min (hcm rfl)) ⟨_, _, rfl, g1, by simp, fun m hm hle => ?_⟩
      rw [← foldl_min r n m hm hle]
      exact k _ _ _ (.flat (.int _))
  · obtain ⟨ds, e1, h2⟩ := Option.bind_eq_some_iff.mp h
    obtain ⟨ns, e2, h3⟩ := Option.bind_eq_some_iff.mp h2
    obtain ⟨l, xs, rfl, g1, r1⟩ := listOf_ok e1 rx zh
    have g2 := intsOf_ok e2 r1
    subst g2
    cases ns with
    | nil => cases h3
    | cons n r =>
      cases h3
      refine callV_of (cr_max (hcm rfl)) ⟨_, _, rfl, g1, by simp, fun m hm hle => ?_⟩
      rw [← foldl_max r n m hm hle]
      exact k _ _ _ (.flat (.int _))
  · cases h
    cases rx.rd with
    | tup h1 h2 => exact callV_of call_list_of ⟨_, _, rfl, .inr h1.sq, fun p hp => k _ _ _ (.list h2 hp)⟩
  · cases h
    cases rx with
    | dk h1 _ h3 _ _ =>
      refine callV_of (call_listD (hcm rfl)) ⟨_, _, rfl, .inl h1, fun p hp => ?_⟩
      have e : ∀ {kvs : List (Key × V)} {os : List (Key × O)} {S : AS}, ROk X.K Z H kvs os S → RDs X.K Z H (kvs.map fun kv => kV kv.1) (os.map fun p => keyD p.1) := fun {kvs} {os} {S} h => by
        induction os generalizing kvs S with
        | nil => cases h; exact .nil
        | cons p os ih =>
          cases h with
          | cons a b _ _ _ =>
            exact .cons (rd_key _) (ih b)
      have e2 := (NP.list (e h3) hp)
      rw [List.map_map] at e2
      exact k _ _ _ e2
  · split at h
    · rename_i kd d r hk
      cases h
      cases rx.rd with
      | dk h1 h2 =>
        refine callV_of (call_listD (hcm rfl)) ⟨_, _, rfl, .inl (zh _ _ h1), fun p hp => ?_⟩
        have e2 := NP.list h2.firsts hp
        rw [List.map_map] at e2
        exact k _ _ _ e2
      | dt h1 h2 => cases h2; cases hk
      | lk => cases hk
      | exc => cases hk
    · cases h
  · obtain ⟨ds, e1, e2⟩ := Option.map_eq_some_iff.mp h
    subst e2
    obtain ⟨l, xs, rfl, h1, r1⟩ := listOf_ok e1 rx zh
    exact callV_of call_list_of ⟨_, _, rfl, .inl h1, fun p hp => k _ _ _ (.list r1 hp)⟩
  · cases h

/-! ### isinstance -/
theorem kitB_ii : kitB "int" "int" = some true := by decide +kernel
theorem kitB_ib : kitB "int" "bool" = some false := by decide +kernel
theorem kitB_is : kitB "int" "str" = some false := by decide +kernel
theorem kitB_il : kitB "int" "list" = some false := by decide +kernel
theorem kitB_it : kitB "int" "tuple" = some false := by decide +kernel
theorem kitB_bi : kitB "bool" "int" = some true := by decide +kernel
theorem kitB_bb : kitB "bool" "bool" = some true := by decide +kernel
theorem kitB_bs : kitB "bool" "str" = some false := by decide +kernel
theorem kitB_bl : kitB "bool" "list" = some false := by decide +kernel
theorem kitB_bt : kitB "bool" "tuple" = some false := by decide +kernel
theorem kitB_si : kitB "str" "int" = some false := by decide +kernel
theorem kitB_sb : kitB "str" "bool" = some false := by decide +kernel
theorem kitB_ss : kitB "str" "str" = some true := by decide +kernel
theorem kitB_sl : kitB "str" "list" = some false := by decide +kernel
theorem kitB_st : kitB "str" "tuple" = some false := by decide +kernel
theorem kitB_ni : kitB "NoneType" "int" = some false := by decide +kernel
theorem kitB_nb : kitB "NoneType" "bool" = some false := by decide +kernel
theorem kitB_ns : kitB "NoneType" "str" = some false := by decide +kernel
theorem kitB_nl : kitB "NoneType" "list" = some false := by decide +kernel
theorem kitB_nt : kitB "NoneType" "tuple" = some false := by decide +kernel
theorem kitB_li : kitB "list" "int" = some false := by decide +kernel
theorem kitB_lb : kitB "list" "bool" = some false := by decide +kernel
theorem kitB_ls : kitB "list" "str" = some false := by decide +kernel
theorem kitB_ll : kitB "list" "list" = some true := by decide +kernel
theorem kitB_lt : kitB "list" "tuple" = some false := by decide +kernel
theorem kitB_ti : kitB "tuple" "int" = some false := by decide +kernel
theorem kitB_tb : kitB "tuple" "bool" = some false := by decide +kernel
theorem kitB_ts : kitB "tuple" "str" = some false := by decide +kernel
theorem kitB_tl : kitB "tuple" "list" = some false := by decide +kernel
theorem kitB_tt : kitB "tuple" "tuple" = some true := by decide +kernel
theorem kitB_di : kitB "dict" "int" = some false := by decide +kernel
theorem kitB_db : kitB "dict" "bool" = some false := by decide +kernel
theorem kitB_ds : kitB "dict" "str" = some false := by decide +kernel
theorem kitB_dl : kitB "dict" "list" = some false := by decide +kernel
theorem kitB_dt : kitB "dict" "tuple" = some false := by decide +kernel
theorem tyx_tup {K : PySem.W.Frag} {a : Addr} {xs : List V} (h : SqT K H a xs) : TyX K H (.ref a) (.type "tuple") := by
  rcases h with (h | ⟨o, h⟩) | ⟨o, its, n, h1, h2, _⟩
  · exact .base (.tup h)
  · exact .fTuple h
  · exact .kTuple h1 h2
theorem tyx_lst {K : PySem.W.Frag} {a : Addr} {xs : List V} (h : SqL K H a xs) : TyX K H (.ref a) (.type "list") := by
  rcases h with (h | ⟨o, h⟩) | ⟨o, its, n, h1, h2, _⟩
  · exact .base (.lst h)
  · exact .base (.frz h)
  · exact .kList h1 h2
theorem isi_ok {d : PyData} {t : Ty} {v : V} (h : RD X.K H H v d) (nd : ∀ kvs, d ≠ .dict kvs) {Q : VK} (k : Q (.bl (isiD d t)) H) : CallV X (.builtin "isinstance") σ [v, .ty t.n] H Q := by
  have go : ∀ {n : String}, TyX X.K H v (.type n) → kitB n t.n = some (isiD d t) → CallV X (.builtin "isinstance") σ [v, .ty t.n] H Q := fun {n} ty e =>
    callV_of call_isi ⟨_, _, _, _, _, rfl, .ty _, ty, kit_ty e, k⟩
  cases h with
  | non => exact go (.base .non) (by cases t <;> first | exact kitB_ni | exact kitB_nb | exact kitB_ns | exact kitB_nl | exact kitB_nt)
  | bl b => exact go (.base (.bl b)) (by cases t <;> first | exact kitB_bi | exact kitB_bb | exact kitB_bs | exact kitB_bl | exact kitB_bt)
  | int i => exact go (.base (.int i)) (by cases t <;> first | exact kitB_ii | exact kitB_ib | exact kitB_is | exact kitB_il | exact kitB_it)
  | str z => exact go (.base (.str z)) (by cases t <;> first | exact kitB_si | exact kitB_sb | exact kitB_ss | exact kitB_sl | exact kitB_st)
  | lst h1 _ => exact go (tyx_lst h1) (by cases t <;> first | exact kitB_li | exact kitB_lb | exact kitB_ls | exact kitB_ll | exact kitB_lt)
  | tup h1 _ => exact go (tyx_tup h1.sq) (by cases t <;> first | exact kitB_ti | exact kitB_tb | exact kitB_ts | exact kitB_tl | exact kitB_tt)
  | dk _ _ => exact absurd rfl (nd _)
  | dt _ _ => exact absurd rfl (nd _)
  | lk _ _ => exact absurd rfl (nd _)
  | exc _ _ _ _ _ => exact absurd rfl (nd _)
end
end Rim
namespace Rim
open PySem PySem.Spec PyProof.Rows L2

/-! ### own syntax against the text's -/
structure CT where
  N : List Str
  sc : Scope
  fnb : Str → Bool
  bl : List Str
  fs : List (Str × Nat)
  ex : List Str
  hx : List Str
  hot : List (Str × Nat)
  calm : Bool
def visB (c : CT) (x : Str) : Bool := match c.sc.names.lookup x with
  | some .local => true
  | some .cell => true
  | some .free => true
  | _ => false
def glB (c : CT) (x : Str) : Bool := decide (c.sc.names.lookup x = some .globalImplicit) && !(x == ("__debug__" : Str))
def locB (c : CT) (x : Str) : Bool := match c.sc.names.lookup x with
  | some .local => true
  | some .cell => c.fnb x
  | _ => false
def nmB (c : CT) (i : Nat) (x : Str) : Bool := decide (c.N[i]? = some x) && visB c x && !(x == ("__debug__" : Str)) && !(x == ("__classdict__" : Str))
def opB : Bop → Operator → Bool
  | .add, .Add => true | .sub, .Sub => true | .mul, .Mult => true | .fdiv, .FloorDiv => true | .mod, .Mod => true | .pow, .Pow => true
  | _, _ => false
def cpB : Cop → CmpOp → Bool
  | .eq, .Eq => true | .ne, .NotEq => true | .lt, .Lt => true | .le, .LtE => true | .gt, .Gt => true | .ge, .GtE => true
  | .isn, .Is => true | .isnt, .IsNot => true | .isin, .In => true | .notin, .NotIn => true
  | _, _ => false
def bl1N : Bl1 → Str
  | .len => "len" | .abs => "abs" | .int => "int" | .str => "str" | .sorted => "sorted" | .list => "list" | .all => "all" | .tuple => "tuple" | .min => "min" | .max => "max"
def bltB (c : CT) (x : Str) : Bool := glB c x && decide (x ∈ c.bl) && decide (x ≠ ("__name__" : Str))
/-- plain: not starred, no slice, no set, no comprehension, no call of super -/
def plainB : Expr → Bool
  | .Starred _ _ => false
  | .Slice _ _ _ _ => false
  | .Set _ _ _ => false
  | .SetComp _ _ _ _ => false
  | .DictComp _ _ _ _ _ => false
  | _ => true
/-- names of a block: its own, captured -/
def blkCT (c : CT) (scope : Scope) : CT := { c with sc := relS scope c.sc, fnb := fun x => scope.names.lookup x == some .cell }
def chkTg (c : CT) : Tg → Expr → Bool
  | .nm i, ast => match ast with
    | .Name x _ => decide (c.N[i]? = some x) && locB c x
    | _ => false
  | .tp a b, ast => match ast with
    | .Tuple [x, y] _ _ => chkTg c a x && chkTg c b y && plainB x && plainB y && c.calm
    | _ => false
  | .tp3 a b d, ast => match ast with
    | .Tuple [x, y, z] _ _ => chkTg c a x && chkTg c b y && chkTg c d z && plainB x && plainB y && plainB z && c.calm
    | _ => false
  | .tp4 a b d f, ast => match ast with
    | .Tuple [x, y, z, u] _ _ => chkTg c a x && chkTg c b y && chkTg c d z && chkTg c f u && plainB x && plainB y && plainB z && plainB u && c.calm
    | _ => false
def mtN : Mt → Str
  | .append => "append" | .pop => "pop" | .popAt => "pop" | .insert => "insert" | .reverse => "reverse" | .clear => "clear" | .extend => "extend"
def mtL : Mt → Nat
  | .append => 1 | .pop => 0 | .popAt => 1 | .insert => 2 | .reverse => 0 | .clear => 0 | .extend => 1
def ownB (c : CT) (own : List Nat) : List (Str × Nat) := own.filterMap fun i => (c.N[i]?).map fun x => (x, i)
/-- a walk that yields pairs -/
def itPair : It → Bool
  | .enum _ => true
  | .zip _ _ => true
  | _ => false
/-- a method's receiver that is no call -/
def noCall : Expr → Bool
  | .Call _ _ _ _ => false
  | _ => true
def isTupT : Tg → Bool
  | .nm _ => false
  | _ => true
/-- names of classes -/
def hxB (c : CT) (h x : Str) : Bool := decide (x = h) && glB c x && decide (h ∈ c.hx)
def chkHs (c : CT) : List Str → List Expr → Bool
  | [], [] => true
  | h :: hs, .Name x _ :: xs => hxB c h x && chkHs c hs xs
  | _, _ => false
def chkCl (c : CT) (cs : List Str) : Expr → Bool
  | .Name x _ => (match cs with
    | [h] => hxB c h x
    | _ => false)
  | .Tuple xs _ _ => chkHs c cs xs && decide (cs.length ≤ 100)
  | _ => false
mutual
def chk (c : CT) : E → Expr → Bool
  | .var i, ast => match ast with
    | .Name x _ => nmB c i x
    | _ => false
  | .mov i, ast => match ast with
    | .Name x _ => nmB c i x
    | _ => false
  | .int i, ast => match ast with
    | .Constant (.int j) _ _ => decide (i = j)
    | _ => false
  | .str s, ast => match ast with
    | .Constant (.str t) _ _ => decide (s = t)
    | _ => false
  | .bl b, ast => match ast with
    | .Constant (.bool d) _ _ => decide (b = d)
    | _ => false
  | .non, ast => match ast with
    | .Constant .none _ _ => true
    | _ => false
  | .bin o a b, ast => match ast with
    | .BinOp x p y _ => opB o p && chk c a x && chk c b y
    | _ => false
  | .neg a, ast => match ast with
    | .UnaryOp .USub x _ => chk c a x
    | _ => false
  | .cmp o a b, ast => match ast with
    | .Compare x [p] [y] _ => cpB o p && chk c a x && chk c b y && plainB y
    | _ => false
  | .band a b, ast => match ast with
    | .BoolOp .And (x :: y :: r) p => chk c a x && (match r with | [] => chk c b y | z :: r => chk c b (.BoolOp .And (y :: z :: r) p))
    | _ => false
  | .bor a b, ast => match ast with
    | .BoolOp .Or (x :: y :: r) p => chk c a x && (match r with | [] => chk c b y | z :: r => chk c b (.BoolOp .Or (y :: z :: r) p))
    | _ => false
  | .not a, ast => match ast with
    | .UnaryOp .Not x _ => chk c a x
    | _ => false
  | .ix a b, ast => match ast with
    | .Subscript x y _ => chk c a x && chk c b y && plainB y
    | _ => false
  | .sl a lo hi, ast => match ast with
    | .Subscript x (.Slice l h none _) _ => chk c a x && chkO c lo l && chkO c hi h
    | _ => false
  | .rev a, ast => match ast with
    | .Subscript x (.Slice none none (some (.UnaryOp .USub (.Constant (.int 1) _ _) _)) _) _ => chk c a x
    | _ => false
  | .tup es, ast => match ast with
    | .Tuple xs _ _ => chks c es xs
    | _ => false
  | .lst es, ast => match ast with
    | .List xs _ => chks c es xs
    | _ => false
  | .call f es, ast => match ast with
    | .Call (.Name x _) (y :: ys) [] _ => decide (x = f) && glB c x && decide ((x, (y :: ys).length) ∈ c.fs) && chkA c es (y :: ys)
    | _ => false
  | .bl1 f a, ast => match ast with
    | .Call (.Name x _) [y] [] _ => decide (x = bl1N f) && bltB c x && chk c a y && plainB y && (!bl1C f || c.calm)
    | _ => false
  | .isi a t, ast => match ast with
    | .Call (.Name x _) [y, .Name z _] [] _ => decide (x = ("isinstance" : Str)) && bltB c x && decide (z = Str.ofString t.n) && bltB c z && chk c a y && plainB y
    | _ => false
  | .isx a cs ex, ast => match ast with
    | .Call (.Name x _) [y, z] [] _ => decide (x = ("isinstance" : Str)) && bltB c x && chk c a y && plainB y && (ex.all fun q => decide (q ∈ c.ex)) && chkCl c cs z
    | _ => false
  | .frz a, ast => chk c a ast
  | .lck a, ast => chk c a ast
  | .cmpA o i b, ast => match ast with
    | .Compare (.Name x _) [p] [y] _ => cpB o p && nmB c i x && chk c b y && plainB y
    | _ => false
  | .lkv i, ast => match ast with
    | .Name x _ => nmB c i x
    | _ => false
  | .comp elt tg it cnd own, ast => match ast with
    | .ListComp x [⟨t, i, ifs, 0⟩] scope _ => chkI c it i && blkC c.N c.sc scope (ownB c own) && decide ((ownB c own).map (·.2) = own) && chkTg (blkCT c scope) tg t && chkC (blkCT c scope) cnd ifs && chk (blkCT c scope) elt x && (!(itPair it) || isTupT tg) && ((tgS tg).all fun i => decide (i ∈ own)) && c.calm
    | _ => false
  | .join a b, ast => match ast with
    | .Call (.Attribute x m ap) [y] [] p => decide (m = ("join" : Str)) && chk c a x && chk c b y && plainB y && (ap.endLine == p.line) && noCall x
    | _ => false
  | .mut m p es, ast => match ast with
    | .Call (.Attribute x n ap) xs [] cp => decide (n = mtN m) && chkP c p x && chks c es xs && (ap.endLine == cp.line) && noCall x && decide (xs.length = mtL m)
    | _ => false
  | .sdf i k v, ast => match ast with
    | .Call (.Attribute (.Call (.Attribute (.Name n np) m1 ap1) [kx, .List [] lp] [] cp1) m2 ap2) [vx] [] cp2 => nmB c i n && decide (m1 = ("setdefault" : Str)) && (ap1.endLine == cp1.line) && chk c k kx && plainB kx && decide (m2 = ("append" : Str)) && chk c v vx && plainB vx && (ap2.endLine == cp2.line)
    | _ => false
  | .lrg a, ast => match ast with
    | .Call (.Name x _) [.Call (.Name y _) [z] [] _] [] _ => decide (x = ("list" : Str)) && bltB c x && decide (y = ("range" : Str)) && bltB c y && chk c a z && plainB z && c.calm
    | _ => false
  | .lrg2 a b, ast => match ast with
    | .Call (.Name x _) [.Call (.Name y _) [z, u] [] _] [] _ => decide (x = ("list" : Str)) && bltB c x && decide (y = ("range" : Str)) && bltB c y && chk c a z && chk c b u && plainB z && plainB u && c.calm
    | _ => false
  | .mutA m i es, ast => match ast with
    | .Call (.Attribute (.Name x xp) n ap) xs [] cp => decide (n = mtN m) && nmB c i x && chks c es xs && (ap.endLine == cp.line) && decide (xs.length = mtL m) && !xs.isEmpty
    | _ => false
  | .mm g a b, ast => match ast with
    | .Call (.Name x _) [y, z] [] _ => decide (x = if g then ("max" : Str) else ("min" : Str)) && bltB c x && chk c a y && chk c b z && plainB y && plainB z && c.calm
    | _ => false
  | .ixA i b, ast => match ast with
    | .Subscript (.Name x _) y _ => nmB c i x && chk c b y && plainB y
    | _ => false
  | .dkn, ast => match ast with
    | .Dict [] [] _ => true
    | _ => false
  | .dtn, ast => match ast with
    | .Dict [] [] _ => true
    | _ => false
  | .srt a rv, ast => match ast with
    | .Call (.Name x _) [y] ks _ => decide (x = ("sorted" : Str)) && bltB c x && chk c a y && plainB y && (match rv, ks with
      | false, [] => true
      | true, [⟨some n, .Constant (.bool true) _ _, _⟩] => decide (n = ("reverse" : Str))
      | _, _ => false)
    | _ => false
def chkP (c : CT) : Pa → Expr → Bool
  | .nm i, ast => match ast with
    | .Name x _ => nmB c i x
    | _ => false
  | .ix p k, ast => match ast with
    | .Subscript x y _ => chkP c p x && chk c k y && plainB y
    | _ => false
def chks (c : CT) : Es → List Expr → Bool
  | .nil, xs => match xs with
    | [] => true
    | _ => false
  | .cons a r, xs => match xs with
    | x :: xs => chk c a x && plainB x && chks c r xs
    | _ => false
def chkA (c : CT) : As → List Expr → Bool
  | .nil, xs => match xs with
    | [] => true
    | _ => false
  | .cons m a r, xs => match xs with
    | x :: xs => chk c a x && plainB x && chkA c r xs && (match m, a with
      | .lend i, .var j => decide (i = j)
      | .lend _, _ => false
      | .borA i, .var j => decide (i = j)
      | .borA _, _ => false
      | _, _ => true)
    | _ => false
def chkO (c : CT) : OE → Option Expr → Bool
  | .no, x => match x with
    | none => true
    | _ => false
  | .so a, x => match x with
    | some x => chk c a x
    | _ => false
def chkC (c : CT) : OE → List Expr → Bool
  | .no, x => match x with
    | [] => true
    | _ => false
  | .so a, x => match x with
    | [x] => chk c a x && tokB a
    | _ => false
def chkI (c : CT) : It → Expr → Bool
  | .seq a, ast => chk c a ast && plainB ast
  | .rng1 a, ast => match ast with
    | .Call (.Name x _) [y] [] _ => decide (x = ("range" : Str)) && bltB c x && chk c a y && plainB y
    | _ => false
  | .rng2 a b, ast => match ast with
    | .Call (.Name x _) [y, z] [] _ => decide (x = ("range" : Str)) && bltB c x && chk c a y && chk c b z && plainB y && plainB z
    | _ => false
  | .enum a, ast => match ast with
    | .Call (.Name x _) [y] [] _ => decide (x = ("enumerate" : Str)) && bltB c x && chk c a y && plainB y
    | _ => false
  | .zip a b, ast => match ast with
    | .Call (.Name x _) [y, z] [] _ => decide (x = ("zip" : Str)) && bltB c x && chk c a y && chk c b z && plainB y && plainB z
    | _ => false
end
end Rim
namespace Rim
open PySem PySem.Spec PyProof.Rows L2
/-! ### defs that may be called while an exception is handled -/
/-- room for k calls -/
structure Rm (k : Nat) (A : Around) : Prop where
  dp : A.depth + 3 * k + 5 < recursionLimit
  un : A.units + 16 * k + 200 < cLine
theorem rm_of {k : Nat} {A : Around} (r : Room k A) : Rm k A := ⟨r.dp, r.un⟩
theorem Rm.deeper {k : Nat} {A : Around} (r : Rm (k + 1) A) (env : PySem.Env) : Rm k (A.deeper env) := by
  have h1 := r.dp
  have h2 := r.un
  exact ⟨by show A.depth + 1 + 3 * k + 5 < recursionLimit; omega, by show A.units + 3 + 16 * k + 200 < cLine; omega⟩
theorem Rm.mono {j k : Nat} {A : Around} (r : Rm k A) (h : j ≤ k) : Rm j A := by
  have h1 := r.dp
  have h2 := r.un
  exact ⟨by omega, by omega⟩
section
variable (P : Program) (w : World) (K : PySem.W.Frag) (mg : Str → Option Value) (base : Heap) (CX : CXT)
/-- what a def promises around A -/
structure FnA (A : Around) (f : Addr) (fd : FuncData) (ps : List Str) (sp : Sp) : Prop where
  len : ∀ vs H Q E, sp vs H Q E → vs.length = ps.length
  run : ∀ (outer : List PySem.Env) (s : Shared) (H : Hp) (args : Args) (us : List Value) (vs : List V) (Q : VK) (E : XK), Env0 P w K mg base A outer s H → BindsTo s fd args (ps.zip us) → Vals vs us → sp vs H Q E → codeAny (model P w) A (.call (.ref f) args) (CR CX outer P w H s Q E) s
/-- .. wherever there is room -/
def FnT (k : Nat) (f : Addr) (fd : FuncData) (ps : List Str) (sp : Sp) : Prop := ∀ A, Rm k A → FnA P w K mg base CX A f fd ps sp
end
theorem fn_at {P : Program} {w : World} {K : PySem.W.Frag} {mg : Str → Option Value} {base : Heap} {CX : CXT} {k : Nat} {f : Addr} {fd : FuncData} {ps : List Str} {sp : Sp} (F : FnOk P w K mg base CX k f fd ps sp) {A : Around} (r : Room k A) : FnA P w K mg base CX A f fd ps sp :=
  ⟨F.len, fun outer s H args us vs Q E e b v h => F.run A outer s H args us vs Q E r e b v h⟩
section
variable {X : Cx} {CX : CXT} {f : Addr} {fd : FuncData} {ps : List Str} {sp : Sp} {E : L2.St → XK} {x : Str} {q pos : Pos} {e : Expr} {es : List Expr} {t : TA}
theorem pe_callA (F : FnA X.prog X.w X.K X.mg X.base CX X.A f fd ps sp) (hg : Gl X x) (hm : X.mg x = some (.ref f)) (hk : PySem.W.keepIn X.K (.ref f) = true) (hb : Binds X.K fd ps []) (hx : ∀ σ, PassesAt CX X σ (E σ)) (ha : PA X (e :: es) t) (d1 : (x == ("__debug__" : Str)) = false)
    (d2 : starEach (e :: es) X.env = (false, eval e X.env) :: starEach es X.env) (d3 : (backTo pos (starEach es X.env)).any (·.1) = false) : PE X (.Call (.Name x q) (e :: es) [] pos) (tCallS sp E t) := by
  refine ⟨fun pins s σ H Q I h => wpAny_Call_Name_kw (ld_glob I hg hm ?_ d1)⟩
  refine PySem.W.callWith_K (h₀ := X.base) I.ok.mod.kin hk (thn (ha.run pos pins s σ H _ I h) ?_) d2 d3
  rintro us s1 ⟨vs, H1, J, r, z⟩
  refine ⟨J.kIn, ?_⟩
  have l : us.length = ps.length := by rw [← r.length]; exact F.len _ _ _ _ z
  have b := hb s1 us J.kIn (by simpa using l)
  rw [List.append_nil] at b
  refine wpAny_call (codeAny_mono (F.run X.stack s1 H1 ⟨us, []⟩ us vs Q (E σ) J.env0 b r z) fun res s2 hq => ?_)
  match res, hq with
  | .error u, hq => exact hx σ pins H1 s1 u s2 J hq
  | .ok (.ret u), hq => exact J.after hq
  | .ok .next, hq => exact hq.elim
  | .ok .brk, hq => exact hq.elim
  | .ok .cont, hq => exact hq.elim
end
/-! ### a def's body, whatever is handled around it -/
abbrev cxT (CX : CXT) (P : Program) (w : World) (K : PySem.W.Frag) (mg : Str → Option Value) (base : Heap) (N : List Str) (qual : Str) (scope : Scope) (f : Addr) (cd : Value) (A : Around) (outer : List PySem.Env) (s : Shared) (H : Hp) (E : XK) : Cx := { cxOf CX P w K mg base N qual scope f cd A outer s H E with calm := false }
section
variable {CX : CXT} {P : Program} {w : World} {K : PySem.W.Frag} {mg : Str → Option Value} {base : Heap} {N ps : List Str} {qual : Str} {scope : Scope} {f : Addr} {cd : Value} {A : Around} {outer : List PySem.Env} {s s1 : Shared} {H : Hp} {E : XK} {us : List Value} {vs : List V}
theorem start_any (S : FnScope N ps scope) (e0 : Env0 P w K mg base A outer s H) (hl : vs.length = ps.length) (r : Vals vs us)
    (x : InCallC s s.heap.objs.size (bindL (envOfC qual scope s.heap.objs.size f cd).kindOf (ps.zip us) fun _ => none) (cellsFrom (s.heap.objs.size + 1) scope.names []) (bindC (envOfC qual scope s.heap.objs.size f cd).kindOf (ps.zip us) fun _ => none) s1) : Inv (cxT CX P w K mg base N qual scope f cd A outer s H E) [] (L2.start N vs) H s1 := by
  have e1 : Env0 P w K mg base { A with handled := none } outer s H := ⟨e0.frames, e0.mod, e0.bs, e0.bsz, e0.funs, e0.frf, e0.hok, e0.bare⟩
  have I : Inv (cxOf CX P w K mg base N qual scope f cd { A with handled := none } outer s H E) [] (L2.start N vs) H s1 := inv_start S rfl e1 hl r x
  have ok := I.ok
  exact ⟨⟨ok.mod, ok.kind, ok.glob, ok.blt, ok.above, ok.inj, ok.has, ok.cab, (fun z => Bool.noConfusion z), ok.frames, ok.stk, ok.exf, ok.bs, ok.bsz, ok.noex, ok.exfs, ok.funs, ok.frf⟩, I.os, I.bare, I.base, I.loc, I.cell, I.free, I.freeC, I.pin, I.hok, I.len⟩
end
theorem fn_any {x qual : Str} {st : Stmt} {P : Program} {w : World} {K : PySem.W.Frag} {mg : Str → Option Value} {base : Heap} {k : Nat} {f : Addr} {fd : FuncData} {N ps : List Str} {sp : Sp} (F : Fun K x qual st f fd) (S : FnScope N ps (defScope st)) (len : ∀ vs H Q E, sp vs H Q E → vs.length = ps.length)
    (body : ∀ (cd : Value) (A : Around) (outer : List PySem.Env) (s : Shared) (H : Hp) (vs : List V) (Q : VK) (E : XK), Rm k (A.deeper (envOfC qual (defScope st) s.heap.objs.size f cd)) → sp vs H Q E →
      ∃ t, PSs (cxT (L2.CX P w) P w K mg base N qual (defScope st) f cd A outer s H E) (defBody st) t ∧ t { nx := fun _ H' => Q .non H', rt := Q } (L2.start N vs) H) : FnT P w K mg base (L2.CX P w) (k + 1) f fd ps sp := by
  obtain ⟨oc, od, kV, doc, pm, an, cdv, ct, osl, rfl, lk, hcd⟩ := F.ex
  intro A room
  refine ⟨len, fun outer s H args us vs Q E e0 hb r h => ?_⟩
  have l := len _ _ _ _ h
  have kept : ∀ b o, base.get? b = some o → s.heap.get? b = some o := fun b o e => (e0.bs b o e).1
  have kin : K.In s.heap := e0.mod.kin.keeps kept
  have kinds : ∀ y ∈ ps.zip us, (defScope st).names.lookup y.1 = some .local ∨ ((defScope st).names.lookup y.1 = some .cell ∧ ((cellsFrom (s.heap.objs.size + 1) (defScope st).names []).lookup y.1).isSome = true) := by
    rintro ⟨n, v⟩ hy
    exact (S.par n (List.of_mem_zip hy).1).imp (fun q => q) fun q => ⟨q, PySem.W.cellsFrom_some _ _ _ (.inl q)⟩
  have depth : A.depth < recursionLimit := by have := room.dp; omega
  refine codeAny_call_function depth (kin _ _ lk) rfl S.co S.gen rfl (PySem.W.codeRec_of kin hcd) (hb _ _ _ _ ?_)
  refine wpAny_newFunctionEnv_cells S.kind kinds ?_
  intro env he s1 x
  subst he
  obtain ⟨t, ht, hq⟩ := body cdv A outer s H vs Q E (room.deeper _) h
  have I : Inv (cxT (L2.CX P w) P w K mg base N qual (defScope st) f cdv A outer s H E) [] (L2.start N vs) H s1 := start_any S e0 l r x
  refine ⟨(e0.mod.nolimit.keeps kept).keeps x.toInCall.keep, codeAny_func (wpAny_mono (ht.run [] s1 _ H _ I hq) ?_ fun _ _ z => z)⟩
  intro fl s2 z
  have done : ∀ {σ : L2.St} {H2 : Hp} {v : V} {u : Value}, Inv (cxT (L2.CX P w) P w K mg base N qual (defScope st) f cdv A outer s H E) [] σ H2 s2 → RelV v u → Q v H2 → CE outer P w H s Q u s2 := fun J rv q => ⟨_, _, J.os, J.bare, J.base, J.hok, rv, q⟩
  match fl, z with
  | .next, ⟨_, _, J, q⟩ => exact done (v := V.non) (u := Value.none) J rfl q
  | .ret u, ⟨_, _, _, J, rv, q⟩ => exact done J rv q
  | .brk, ⟨_, _, _, q⟩ => exact q.elim
  | .cont, ⟨_, _, _, q⟩ => exact q.elim
end Rim
namespace Rim
open PySem PySem.Spec PyProof.Rows L2

/-! ### what a def promises -/
/-- the word of a run of the def f with n parameters, as a promise -/
def FPost (K : PySem.W.Frag) (cl : Str → Value) (vs : List V) (S : AS) (Z H : Hp) (r : FR) (Q : VK) (E : XK) : Prop :=
  match r with
  | .ok o ps => ∀ v Z' H' S' Sv, PR K false true (vs.map some) S Z H ps (repO K v o) Z' H' S' Sv → Q v H'
  | .ex c ps => ∀ Z' H' S', PX K (vs.map some) S Z H ps Z' H' S' → E (cl c) none H'
  | .no => False
def spF (K : PySem.W.Frag) (cl : Str → Value) (F : Fns) (f : Str) (n : Nat) : Sp := fun vs H Q E => vs.length = n ∧ ∃ (S : AS) (Z : Hp) (os : List O), Wd S Z H ∧ ROs K Z H vs os S ∧ FPost K cl vs S Z H (F f os) Q E

/-- an own class of exceptions -/
def ExK (K : PySem.W.Frag) (mg : Str → Option Value) (cl : Str → Value) (hx : List Str) (q : Str) : Prop :=
  ∃ D, PySem.W.nsIn K mainGlobals q = some (some (.ref D)) ∧ cl q = .ref D ∧ mg q = some (.ref D) ∧ PySem.W.keepIn K (.ref D) = true ∧ PySem.W.excIn K D [.type "ValueError", .type "Exception", .type "BaseException", .type "object"] "ValueError.__new__" = true ∧
    PySem.W.subIn K (.ref D) (.type "BaseException") = some true ∧ PySem.W.typeIn K (.ref D) = some (.type "type") ∧ ExcC K D ∧ ∀ h ∈ hx, PySem.W.kitOne K (.ref D) (cl h) = some (excSub q h) ∧ PySem.W.exmOne K (.ref D) (cl h) = some (excSub q h)
/-- a class that is named -/
def HxK (mg : Str → Option Value) (cl : Str → Value) (h : Str) : Prop := (mg h = some (cl h) ∧ ∃ D, cl h = .ref D) ∨ (mg h = none ∧ bootBuiltins h = some (cl h) ∧ h ≠ "__name__" ∧ ∃ T, cl h = .type T)
structure XOk (c : CT) (F : Fns) (cl : Str → Value) (k : Nat) (W : WX) (X : Cx) : Prop where
  N : X.N = c.N
  nd : c.N.Nodup
  sc : X.env.scope = c.sc
  fnb : ∀ x, c.fnb x = true → X.fn x = true
  calm : c.calm = true → X.calm = true
  bl : ∀ x ∈ c.bl, X.mg x = none
  hu : X.A.units + 65 < cLine
  tk : Takes X W
  rm : Rm k X.A
  fs : ∀ f n, (f, n) ∈ c.fs → ∃ (fa : Addr) (fd : FuncData) (ps : List Str), X.mg f = some (.ref fa) ∧ PySem.W.keepIn X.K (.ref fa) = true ∧ Binds X.K fd ps [] ∧ ps.length = n ∧ FnA X.prog X.w X.K X.mg X.base (L2.CX X.prog X.w) X.A fa fd ps (spF X.K cl F f n)
  hots : ∀ f n, (f, n) ∈ c.hot → ∃ (fa : Addr) (fd : FuncData) (ps : List Str), X.mg f = some (.ref fa) ∧ PySem.W.keepIn X.K (.ref fa) = true ∧ Binds X.K fd ps [] ∧ ps.length = n ∧ FnT X.prog X.w X.K X.mg X.base (L2.CX X.prog X.w) k fa fd ps (spF X.K cl F f n)
  exk : ∀ q ∈ c.ex, ExK X.K X.mg cl c.hx q
  hxk : ∀ h ∈ c.hx, HxK X.mg cl h

section
variable {c : CT} {F : Fns} {cl : Str → Value} {k : Nat} {W : WX} {X : Cx} {x : Str} {i : Nat} {σ : L2.St} {S S1 S2 Sv Sv1 Sv2 : AS} {Z H Z1 H1 Z2 H2 : Hp} {e e1 e2 : Env} {q q1 q2 t : Bool} {v u : V} {o y : O} {ast : Expr}
theorem str_ne {x y : Str} (h : (x == y) = false) : (x == y) = false := h
theorem XOk.vis (ok : XOk c F cl k W X) (h : visB c x = true) : Vis X.env.scope x := by
  unfold visB at h
  rw [← ok.sc] at h
  split at h
  · exact .inl (by assumption)
  · exact .inr (.inl (by assumption))
  · exact .inr (.inr (by assumption))
  · cases h
theorem XOk.gl (ok : XOk c F cl k W X) (h : glB c x = true) : Gl X x ∧ (x == ("__debug__" : Str)) = false := by
  unfold glB at h
  rw [← ok.sc, Bool.and_eq_true, Bool.not_eq_true'] at h
  have q : X.env.scope.names.lookup x = some .globalImplicit := of_decide_eq_true h.1
  exact ⟨q, h.2⟩
theorem XOk.name (ok : XOk c F cl k W X) (h : nmB c i x = true) {pos : Pos} : PE X (.Name x pos) (tVar i) := by
  unfold nmB at h
  simp only [Bool.and_eq_true, Bool.not_eq_true', decide_eq_true_eq] at h
  exact pe_var (by rw [ok.N]; exact h.1.1.1) (ok.vis h.1.1.2) h.1.2 h.2
theorem XOk.loc (ok : XOk c F cl k W X) (h : locB c x = true) : Loc X.env.scope x ∧ (X.fn x = true ∨ X.env.scope.names.lookup x = some .local) := by
  unfold locB at h
  rw [← ok.sc] at h
  split at h
  · rename_i z
    exact ⟨.inl z, .inr z⟩
  · rename_i z
    exact ⟨.inr z, .inl (ok.fnb x h)⟩
  · cases h

/-- a value that is seen where it stands -/
theorem PR.view {K : PySem.W.Frag} {R : Hp → Hp → AS → AS → Prop} (w : Wd S Z H) (r : RE K Z H σ e S) (h : R Z H S S1) (s : ∀ a, S1 a → S a) : PR K q false σ S Z H e R Z H S S1 := ⟨w, .refl, r, h, (fun z => nomatch z), fun _ => s, fun _ => ⟨Ex.refl _, rfl, fun _ z => z⟩⟩
/-- frozen: apart at once -/
theorem PR.fzApart {K : PySem.W.Frag} {d : PyData} (p : PR K q t σ S Z H e (repO K v (.fz d)) Z1 H1 S1 Sv) : PR K q true σ S Z H e (repO K v (.fz d)) Z1 H1 S1 (fun _ => False) :=
  p.flat (.fz p.ro.rd)
theorem isFz_eq (h : isFz o = true) : ∃ d, o = .fz d := by
  cases o with
  | fz d => exact ⟨d, rfl⟩
  | _ => cases h
/-- an earlier value behind a later evaluation -/
structure Kept (K : PySem.W.Frag) (S : AS) (Z H : Hp) (S2 Sv1 Sv2 : AS) (Z2 H2 : Hp) : Prop where
  wd : Wd Sv1 Z2 H2
  dj : ∀ a, Sv1 a → ¬ S2 a ∧ ¬ Sv2 a
  gr : Gr S Z H (Sor S2 (Sor Sv1 Sv2)) Z2 H2
theorem keptCell (w1 : Wd Sv1 Z1 H1) (d1 : ∀ a, S1 a → ¬ Sv1 a) (g : Gr S1 Z1 H1 S2 Z2 H2) : ∀ a u, Sv1 a → H1 a = some u → H2 a = some u := fun a u q z => g.keep a u z fun y => d1 a y q
theorem kept_of {σ' : L2.St} {K : PySem.W.Frag} {R R' : Hp → Hp → AS → AS → Prop} (p : PR K q1 true σ S Z H e1 R Z1 H1 S1 Sv1) (p2 : PR K q2 true σ' S1 Z1 H1 e2 R' Z2 H2 S2 Sv2) : Kept K S Z H S2 Sv1 Sv2 Z2 H2 := by
  obtain ⟨a1, a2, a3⟩ := p.apart rfl
  obtain ⟨b1, b2, b3⟩ := p2.apart rfl
  have nn : ∀ a, Sv1 a → ¬ (S1 a ∨ H1 a = none ∨ Z1 a ≠ none) := fun a q z => by
    rcases z with z | z | z
    · exact a1 a z q
    · exact not_own_none a2 q z
    · exact z (a2.own a q).1
  refine ⟨⟨b2.zh, fun a q => ⟨?_, ?_⟩⟩, fun a q => ⟨fun z => nn a q (b3.new a (.inl (.inl z))), fun z => nn a q (b3.new a (.inl (.inr z)))⟩, ?_⟩
  · cases r : Z2 a with
    | none => rfl
    | some o => exact absurd (b3.new a (.inr (by rw [r]; simp))) (nn a q)
  · have m := (a2.own a q).2
    cases r : H1 a with
    | none => rw [r] at m; exact m.elim
    | some o =>
      rw [keptCell a2 a1 p2.gr a o q r]
      rw [r] at m
      exact m
  · have g : Gr S1 Z1 H1 (Sor S2 Sv2) Z2 H2 := b3
    have tot := Gr.trans p.wd p.gr g
    refine ⟨tot.z, tot.keep, fun a z => ?_⟩
    rcases z with (z | z | z) | z
    · exact tot.new a (.inl (.inl z))
    · exact a3.new a (.inl (.inr z))
    · exact tot.new a (.inl (.inr z))
    · exact tot.new a (.inr z)
theorem PR.tx {K : PySem.W.Frag} {R : Hp → Hp → AS → AS → Prop} (w : Wd S Z H) (p : PR K q t σ S Z H e R Z1 H1 S1 Sv) : Tx K H H1 := p.gr.tx w
/-- the first operand behind the second -/
theorem fst_kept {σ' : L2.St} {K : PySem.W.Frag} {R' : Hp → Hp → AS → AS → Prop} {t1 t2 : Bool} (p : PR K q1 t1 σ S Z H e1 (repO K v o) Z1 H1 S1 Sv1) (p2 : PR K q2 t2 σ' S1 Z1 H1 e2 R' Z2 H2 S2 Sv2) (h : t1 = true ∨ isFz o = true ∨ q2 = true) : RO K Z2 H2 v o Sv1 := by
  have tx := p2.tx p.wd
  rcases h with h | h | h
  · subst h
    obtain ⟨a1, a2, a3⟩ := p.apart rfl
    exact RO.stay p2.gr.z tx p.ro (keptCell a2 a1 p2.gr)
  · obtain ⟨d, rfl⟩ := isFz_eq h
    exact .fz (p.ro.rd.mono p2.gr.z tx)
  · exact RO.stay p2.gr.z tx p.ro fun a u _ z => (p2.quiet h).1 a u z
end

def GoodE (F : Fns) (cl : Str → Value) (a : E) : Prop := ∀ (w : Bool) (X : Cx) (W : WX) (c : CT) (k : Nat) (ast : Expr), XOk c F cl k W X → chk c a ast = true → ∀ (σ : L2.St) (S : AS) (Z H : Hp) (e : Env), Wd S Z H → RE X.K Z H σ e S →
  SR X W cl (repO X.K) (qt a) (!(w && pl a)) (wE X ast) σ S Z H (ev F w a e)

section
variable {c : CT} {F : Fns} {cl : Str → Value} {a b : E}
theorem good_var {i : Nat} : GoodE F cl (.var i) := by
  intro w X W c k ast ok hc σ S Z H e wd re Q h
  unfold chk at hc
  split at hc
  · rename_i x pos
    unfold ev at h
    split at h
    · rename_i o he
      obtain ⟨v, S1, S2, h1, h2, h3, h4, h5, h6⟩ := re.at he
      refine wE_of (ok.name hc) ⟨v, h1, ?_⟩
      split at h
      · rename_i hw
        cases w with
        | true => exact h v Z H S S1 (PR.view wd re h2 h3)
        | false =>
          obtain ⟨d, rfl⟩ := isFz_eq (by simpa using hw)
          exact h v Z H S _ (PR.here wd re (.fz h2.rd))
      · exact h.elim
    · exact h.elim
  · cases hc
theorem good_mov {i : Nat} : GoodE F cl (.mov i) := by
  intro w X W c k ast ok hc σ S Z H e wd re Q h
  unfold chk at hc
  split at hc
  · rename_i x pos
    unfold ev at h
    split at h
    · rename_i o he
      obtain ⟨v, S1, S2, h1, h2, h3, h4, h5, h6⟩ := re.at he
      refine wE_of (ok.name hc) ⟨v, h1, ?_⟩
      refine h v Z H S2 S1 ⟨wd.sub h4, Gr.refl.subR h4, h6, h2, fun _ => ⟨fun a z y => h5 a y z, wd.sub h3, Gr.refl.subR fun a z => z.elim (h4 a) (h3 a)⟩, (fun z => by simp [pl] at z), fun z => nomatch z⟩
    · exact h.elim
  · cases hc
theorem good_int {i : Int} : GoodE F cl (.int i) := by
  intro w X W c k ast ok hc σ S Z H e wd re Q h
  unfold chk at hc
  split at hc
  · cases of_decide_eq_true hc
    exact wE_of pe_int (h _ Z H S _ (PR.here wd re (.fz (.int _))))
  · cases hc
theorem good_str {i : Str} : GoodE F cl (.str i) := by
  intro w X W c k ast ok hc σ S Z H e wd re Q h
  unfold chk at hc
  split at hc
  · cases of_decide_eq_true hc
    exact wE_of pe_str (h _ Z H S _ (PR.here wd re (.fz (.str _))))
  · cases hc
theorem good_bl {i : Bool} : GoodE F cl (.bl i) := by
  intro w X W c k ast ok hc σ S Z H e wd re Q h
  unfold chk at hc
  split at hc
  · cases of_decide_eq_true hc
    exact wE_of pe_bl (h _ Z H S _ (PR.here wd re (.fz (.bl _))))
  · cases hc
theorem good_non : GoodE F cl .non := by
  intro w X W c k ast ok hc σ S Z H e wd re Q h
  unfold chk at hc
  split at hc
  · exact wE_of pe_non (h _ Z H S _ (PR.here wd re (.fz .non)))
  · cases hc
theorem opB_eq {o : Bop} {p : Operator} (h : opB o p = true) : p = opA o := by
  cases o <;> cases p <;> first | rfl | cases h
theorem cpB_eq {o : Cop} {p : CmpOp} (h : cpB o p = true) : p = cpA o := by
  cases o <;> cases p <;> first | rfl | cases h
theorem wE_bin {X : Cx} {x y : Expr} {op : Operator} {pos : Pos} {σ : L2.St} {H : Hp} {Q : VK} (h : wE X x σ H fun v H1 => wE X y σ H1 fun u H2 => OpV X (binaryOp op) σ v u H2 Q) : wE X (.BinOp x op y pos) σ H Q := fun pins s I =>
  wpAny_BinOp (thn (h pins s I) fun v s1 ⟨x1, H1, I1, r1, q1⟩ => thn (q1 pins s1 I1) fun u s2 ⟨x2, H2, I2, r2, q2⟩ => q2 pins s2 v u I2 r1 r2)
theorem wE_cmp {X : Cx} {x y : Expr} {op : CmpOp} {pos : Pos} {σ : L2.St} {H : Hp} {Q : VK} (hm : behindInMarks op y = false) (h : wE X x σ H fun v H1 => wE X y σ H1 fun u H2 => OpV X (compareOp op) σ v u H2 Q) : wE X (.Compare x [op] [y] pos) σ H Q := fun pins s I =>
  wpAny_Compare1 (thn (h pins s I) fun v s1 ⟨x1, H1, I1, r1, q1⟩ => thn (q1 pins s1 I1) fun u s2 ⟨x2, H2, I2, r2, q2⟩ => q2 pins s2 v u I2 r1 r2) hm
theorem cond3 {p x y : Bool} (h : (p || x || y) = true) : p = true ∨ x = true ∨ y = true := by
  cases p <;> cases x <;> cases y <;> simp_all
theorem good_bin {op : Bop} (ha : GoodE F cl a) (hb : GoodE F cl b) : GoodE F cl (.bin op a b) := by
  intro w X W c k ast ok hc σ S Z H e wd re Q h
  unfold chk at hc
  split at hc
  · rename_i x p y pos
    simp only [Bool.and_eq_true] at hc
    cases opB_eq hc.1.1
    unfold ev at h
    refine wE_bin (ha true X W c k x ok hc.1.2 σ S Z H e wd re _ (RSpec.bind (q2 := qt b) (fun z => by simpa [qt] using z) (fun o1 e1 _ v1 Z1 H1 S1 Sv1 p1 h1 => ?_) h))
    refine hb true X W c k y ok hc.2 σ S1 Z1 H1 e1 p1.wd p1.re _ (RSpec.bind (q2 := true) (fun z => ⟨z, rfl⟩) (fun o2 e2 _ v2 Z2 H2 S2 Sv2 p2 h2 => ?_) h1)
    split at h2
    · rename_i cd
      obtain ⟨o3, e3, h3⟩ := RSpec.of h2
      have r1 := fst_kept p1 p2 (by simpa using cond3 cd)
      exact binO_ok e3 r1 p2.ro p2.wd.zh fun w3 H3 S3 n3 => h3 w3 Z2 H3 S2 S3 (n3.pr (by simp [pl]) p2.wd p2.re)
    · exact h2.elim
  · cases hc
theorem plain_mark {op : CmpOp} {y : Expr} (h : plainB y = true) : behindInMarks op y = false := by
  cases y <;> first | rfl | (simp [plainB] at h)
theorem good_cmp {op : Cop} (ha : GoodE F cl a) (hb : GoodE F cl b) : GoodE F cl (.cmp op a b) := by
  intro w X W c k ast ok hc σ S Z H e wd re Q h
  unfold chk at hc
  split at hc
  · rename_i x p y pos
    simp only [Bool.and_eq_true] at hc
    cases cpB_eq hc.1.1.1
    unfold ev at h
    refine wE_cmp (plain_mark hc.2) (ha true X W c k x ok hc.1.1.2 σ S Z H e wd re _ (RSpec.bind (q2 := qt b) (fun z => by simpa [qt] using z) (fun o1 e1 _ v1 Z1 H1 S1 Sv1 p1 h1 => ?_) h))
    refine hb true X W c k y ok hc.1.2 σ S1 Z1 H1 e1 p1.wd p1.re _ (RSpec.bind (q2 := true) (fun z => ⟨z, rfl⟩) (fun o2 e2 _ v2 Z2 H2 S2 Sv2 p2 h2 => ?_) h1)
    split at h2
    · rename_i cd
      obtain ⟨o3, e3, h3⟩ := RSpec.of h2
      obtain ⟨r, e4, e5⟩ := Option.map_eq_some_iff.mp e3
      subst e5
      have r1 := fst_kept p1 p2 (by simpa using cond3 cd)
      exact cmpO_ok e4 ok.hu r1 p2.ro p2.wd.zh (h3 _ Z2 H2 S2 _ (PR.here p2.wd p2.re (.fz (.bl _))))
    · exact h2.elim
  · cases hc
/-- what stands at a slot behind, the slot's value being what it was -/
theorem slot_kept {X : Cx} {q t : Bool} {R : Hp → Hp → AS → AS → Prop} {σ : L2.St} {S S2 Sv2 : AS} {Z H Z2 H2 : Hp} {e2 : Env} {i : Nat} {v : V} {o : O} (p : PR X.K q t σ S Z H e2 R Z2 H2 S2 Sv2) (hv : σ[i]? = some (some v)) (he : e2[i]? = some (some o)) : ∃ A, RO X.K Z2 H2 v o A ∧ ∀ x, A x → S2 x := by
  obtain ⟨v', A1, A2, j1, j2, j3, j4, j5, j6⟩ := p.re.at he
  rw [hv] at j1
  cases j1
  exact ⟨A1, j2, j3⟩
theorem good_cmpA {op : Cop} {i : Nat} (hb : GoodE F cl b) : GoodE F cl (.cmpA op i b) := by
  intro w X W c k ast ok hc σ S Z H e wd re Q h
  unfold chk at hc
  split at hc
  · rename_i x xp p y pos
    simp only [Bool.and_eq_true] at hc
    cases cpB_eq hc.1.1.1
    unfold ev at h
    split at h
    · rename_i o0 he
      obtain ⟨v, S1, S2, h1, h2, h3, h4, h5, h6⟩ := re.at he
      refine wE_cmp (plain_mark hc.2) (wE_of (ok.name hc.1.1.2) ⟨v, h1, ?_⟩)
      refine hb true X W c k y ok hc.1.2 σ S Z H e wd re _ (RSpec.bind (q2 := qt b) (fun z => by simp [qt] at z) (fun o2 e2 _ v2 Z2 H2 S2 Sv2 p2 h2 => ?_) h)
      split at h2
      · rename_i ox he1
        obtain ⟨o3, e3, h3'⟩ := RSpec.of h2
        obtain ⟨r, e4, e5⟩ := Option.map_eq_some_iff.mp e3
        subst e5
        obtain ⟨A, r1, r2⟩ := slot_kept p2 h1 he1
        exact cmpO_ok e4 ok.hu r1 p2.ro p2.wd.zh (h3' _ Z2 H2 _ _ (PR.here p2.wd p2.re (.fz (.bl _))))
      · exact h2.elim
    · exact h.elim
  · cases hc
theorem good_neg (ha : GoodE F cl a) : GoodE F cl (.neg a) := by
  intro w X W c k ast ok hc σ S Z H e wd re Q h
  unfold chk at hc
  split at hc
  · rename_i x pos
    unfold ev at h
    refine wE_of (pe_un un_neg pe_wE) (ha false X W c k x ok hc σ S Z H e wd re _ (RSpec.bind (q2 := true) (fun z => ⟨z, rfl⟩) (fun o1 e1 _ v1 Z1 H1 S1 Sv1 p1 h1 => ?_) h))
    obtain ⟨o3, e3, h3⟩ := RSpec.of h1
    unfold negO at e3
    split at e3
    · cases e3
      cases (show RO _ _ _ _ _ _ from p1.ro).int
      exact ⟨_, rfl, h3 _ Z1 H1 S1 _ (PR.here p1.wd p1.re (.fz (.int _)))⟩
    · cases e3
  · cases hc
theorem boolOf_ok {X : Cx} {W : WX} {σ : L2.St} {S : AS} {Z H : Hp} {q : Bool} {α β : Type} {rep : β → α → Hp → Hp → AS → AS → Prop} {t : Bool} {o : O} {e : Env} {f : Bool → Env → Rs α} {Q : β → Hp → Prop} (h : RSpec X W cl rep q t σ S Z H ((boolOf o e).bind f) Q) : ∃ r, o = .fz (.bool r) ∧ RSpec X W cl rep q t σ S Z H (f r e) Q := by
  unfold boolOf at h
  split at h
  · exact ⟨_, rfl, h⟩
  · exact h.elim
theorem intOf_ok {X : Cx} {W : WX} {σ : L2.St} {S : AS} {Z H : Hp} {q : Bool} {α β : Type} {rep : β → α → Hp → Hp → AS → AS → Prop} {t : Bool} {o : O} {e : Env} {f : Int → Env → Rs α} {Q : β → Hp → Prop} (h : RSpec X W cl rep q t σ S Z H ((intOf o e).bind f) Q) : ∃ r, o = .fz (.int r) ∧ RSpec X W cl rep q t σ S Z H (f r e) Q := by
  unfold intOf at h
  split at h
  · exact ⟨_, rfl, h⟩
  · exact h.elim
theorem good_not (ha : GoodE F cl a) : GoodE F cl (.not a) := by
  intro w X W c k ast ok hc σ S Z H e wd re Q h
  unfold chk at hc
  split at hc
  · rename_i x pos
    unfold ev at h
    refine wE_of (pe_not pe_wE) (ha false X W c k x ok hc σ S Z H e wd re _ (RSpec.bind (q2 := true) (fun z => ⟨z, rfl⟩) (fun o1 e1 _ v1 Z1 H1 S1 Sv1 p1 h1 => ?_) h))
    obtain ⟨r, rfl, h3⟩ := boolOf_ok h1
    cases (show RO _ _ _ _ _ _ from p1.ro).bl
    exact ⟨_, rfl, h3 _ Z1 H1 S1 _ (PR.here p1.wd p1.re (.fz (.bl _)))⟩
  · cases hc
theorem pe_boolop {X : Cx} {op : BoolOp} {y : Expr} {r : List Expr} {p : Pos} {t : TE} (h : match r with | [] => PE X y t | z :: r => PE X (.BoolOp op (y :: z :: r) p) t) : PE X (.BoolOp op (y :: r) p) t := by
  cases r with
  | nil => exact pe_one h
  | cons z r => exact h
theorem good_band (ha : GoodE F cl a) (hb : GoodE F cl b) : GoodE F cl (.band a b) := by
  intro w X W c k ast ok hc σ S Z H e wd re Q h
  unfold chk at hc
  split at hc
  · rename_i x y r p
    simp only [Bool.and_eq_true] at hc
    have hy : ∃ z, chk c b z = true ∧ PE X (.BoolOp .And (y :: r) p) (wE X z) := by
      cases r with
      | nil => exact ⟨y, hc.2, pe_one pe_wE⟩
      | cons z r => exact ⟨_, hc.2, pe_wE⟩
    obtain ⟨z, hz, pz⟩ := hy
    unfold ev at h
    refine wE_of (pe_and pe_wE pz) (ha false X W c k x ok hc.1 σ S Z H e wd re _ (RSpec.bind (q2 := qt b) (fun z => by simpa [qt] using z) (fun o1 e1 _ v1 Z1 H1 S1 Sv1 p1 h1 => ?_) h))
    obtain ⟨r1, rfl, h3⟩ := boolOf_ok h1
    cases (show RO _ _ _ _ _ _ from p1.ro).bl
    refine ⟨_, rfl, ?_⟩
    cases r1 with
    | false => exact h3 _ Z1 H1 S1 _ (PR.here p1.wd p1.re (.fz (.bl _)))
    | true =>
      refine hb false X W c k z ok hz σ S1 Z1 H1 e1 p1.wd p1.re _ (RSpec.bind (q2 := true) (fun z => ⟨z, rfl⟩) (fun o2 e2 _ v2 Z2 H2 S2 Sv2 p2 h2 => ?_) h3)
      obtain ⟨r2, rfl, h4⟩ := boolOf_ok h2
      cases (show RO _ _ _ _ _ _ from p2.ro).bl
      exact h4 _ Z2 H2 S2 _ (PR.here p2.wd p2.re (.fz (.bl _)))
  · cases hc
theorem good_bor (ha : GoodE F cl a) (hb : GoodE F cl b) : GoodE F cl (.bor a b) := by
  intro w X W c k ast ok hc σ S Z H e wd re Q h
  unfold chk at hc
  split at hc
  · rename_i x y r p
    simp only [Bool.and_eq_true] at hc
    have hy : ∃ z, chk c b z = true ∧ PE X (.BoolOp .Or (y :: r) p) (wE X z) := by
      cases r with
      | nil => exact ⟨y, hc.2, pe_one pe_wE⟩
      | cons z r => exact ⟨_, hc.2, pe_wE⟩
    obtain ⟨z, hz, pz⟩ := hy
    unfold ev at h
    refine wE_of (pe_or pe_wE pz) (ha false X W c k x ok hc.1 σ S Z H e wd re _ (RSpec.bind (q2 := qt b) (fun z => by simpa [qt] using z) (fun o1 e1 _ v1 Z1 H1 S1 Sv1 p1 h1 => ?_) h))
    obtain ⟨r1, rfl, h3⟩ := boolOf_ok h1
    cases (show RO _ _ _ _ _ _ from p1.ro).bl
    refine ⟨_, rfl, ?_⟩
    cases r1 with
    | true => exact h3 _ Z1 H1 S1 _ (PR.here p1.wd p1.re (.fz (.bl _)))
    | false =>
      refine hb false X W c k z ok hz σ S1 Z1 H1 e1 p1.wd p1.re _ (RSpec.bind (q2 := true) (fun z => ⟨z, rfl⟩) (fun o2 e2 _ v2 Z2 H2 S2 Sv2 p2 h2 => ?_) h3)
      obtain ⟨r2, rfl, h4⟩ := boolOf_ok h2
      cases (show RO _ _ _ _ _ _ from p2.ro).bl
      exact h4 _ Z2 H2 S2 _ (PR.here p2.wd p2.re (.fz (.bl _)))
  · cases hc
end
end Rim
namespace Rim
open PySem PySem.Spec PyProof.Rows L2

section
variable {c : CT} {F : Fns} {cl : Str → Value} {k : Nat} {W : WX} {X : Cx} {x : Str} {i : Nat} {σ : L2.St} {S S1 S2 Sv Sv1 Sv2 : AS} {Z H Z1 H1 Z2 H2 : Hp} {e e1 e2 : Env} {q q1 q2 t : Bool} {v u : V} {o y : O} {ast : Expr} {a b : E}
variable {R R' : Hp → Hp → AS → AS → Prop} {K : PySem.W.Frag}
/-! ### new cells behind an evaluation -/
/-- a new tuple -/
theorem PR.newT {p : Addr} {xs : List V} (h : PR K q t σ S Z H e R Z1 H1 S1 Sv) (hp : H1 p = none) (r : R' Z1 (upd H1 p (.tup xs)) S1 Sv) : PR K q t σ S Z H e R' Z1 (upd H1 p (.tup xs)) S1 Sv :=
  ⟨h.wd.newT hp, h.gr.trans h.wd (.newT hp), h.re.stay (Ex.refl _) (ex_new hp).tx fun a u _ z => ex_new hp a u z, r,
    fun z => ⟨(h.apart z).1, (h.apart z).2.1.newT hp, ⟨(h.apart z).2.2.z, fun a o w n => ex_new hp a o ((h.apart z).2.2.keep a o w n), (h.apart z).2.2.new⟩⟩, h.sub, fun z => ⟨(h.quiet z).1.trans (ex_new hp), (h.quiet z).2⟩⟩
/-- a new list, of what was made -/
theorem PR.newL {p : Addr} {o : HO} (h : PR K q true σ S Z H e R Z1 H1 S1 Sv) (hp : H1 p = none) (m : Mut (some o)) (r : R' Z1 (upd H1 p o) S1 (Sor Sv fun a => a = p)) : PR K q true σ S Z H e R' Z1 (upd H1 p o) S1 (Sor Sv fun a => a = p) := by
  obtain ⟨a1, a2, a3⟩ := h.apart rfl
  refine ⟨h.wd.newT hp, h.gr.trans h.wd (.newT hp), h.re.stay (Ex.refl _) (ex_new hp).tx fun a u _ z => ex_new hp a u z, r, fun _ => ⟨fun a z y => ?_, a2.new hp m, ⟨a3.z, fun a o w n => ex_new hp a o (a3.keep a o w n), fun a z => ?_⟩⟩, (fun z => nomatch z), fun z => ⟨(h.quiet z).1.trans (ex_new hp), (h.quiet z).2⟩⟩
  · rcases y with y | y
    · exact a1 a z y
    · exact not_own_none h.wd z (by rw [y]; exact hp)
  · rcases z with (z | z | z) | z
    · exact a3.new a (.inl (.inl z))
    · exact a3.new a (.inl (.inr z))
    · subst z
      by_cases q : S a
      · exact .inl q
      · cases r : H a with
        | none => exact .inr (.inl rfl)
        | some u =>
          have := h.gr.keep a u r q
          rw [hp] at this
          cases this
    · exact a3.new a (.inr z)
/-- the value is frozen -/
theorem Wd.or (a : Wd S Z H) (b : Wd Sv Z H) : Wd (Sor S Sv) Z H := ⟨a.zh, fun x q => q.elim (a.own x) (b.own x)⟩
theorem PR.freeze {q2 : Bool} (hq : q2 = false) (h : PR K q true σ S Z H e (repO K v o) Z1 H1 S1 Sv) : PR K q2 t σ S Z H e (repO K v (.fz (er o))) (frzZ Z1 H1 Sv) H1 S1 (fun _ => False) := by
  obtain ⟨a1, a2, a3⟩ := h.apart rfl
  have g := a3.trans (h.wd.or a2) (Gr.frz (S := S1) a2)
  have w := h.wd.frz a2 a1
  exact ⟨w, g, h.re.stay (frzZ_ex a2) Tx.refl fun _ _ _ z => z, .fz (RO.frozen a2 h.ro), fun _ => ⟨fun _ _ z => z, ⟨w.zh, fun _ z => z.elim⟩, g.subR fun _ z => z.elim (fun y => y) fun y => y.elim⟩, fun _ _ z => z.elim, fun z => by rw [hq] at z; cases z⟩

/-! ### argument lists -/
def wA (X : Cx) (es : List Expr) : TA := fun σ H Q => ∀ pos pins s, Inv X pins σ H s → wpAny (model X.prog X.w) X.A (spliced (backTo pos (starEach es X.env))) (AP X pins σ Q) X.xe s
theorem pa_wA {es : List Expr} : PA X es (wA X es) := ⟨fun pos pins s σ H Q I h => h pos pins s I⟩
theorem wA_of {es : List Expr} {t : TA} (h : PA X es t) {Q : List V → Hp → Prop} (q : t σ H Q) : wA X es σ H Q := fun pos pins s I => h.run pos pins s σ H Q I q
theorem plain_star {a : Expr} {r : List Expr} {env : PySem.Env} (h : plainB a = true) : starEach (a :: r) env = (false, eval a env) :: starEach r env := by
  cases a <;> first | rfl | (simp [plainB] at h)
def GoodEs (F : Fns) (cl : Str → Value) (es : Es) : Prop := ∀ (X : Cx) (W : WX) (c : CT) (k : Nat) (xs : List Expr), XOk c F cl k W X → chks c es xs = true → ∀ (σ : L2.St) (S : AS) (Z H : Hp) (e : Env), Wd S Z H → RE X.K Z H σ e S →
  SR X W cl (repOs X.K) (qts es) true (wA X xs) σ S Z H (evEs F es e)
theorem good_enil : GoodEs F cl .nil := by
  intro X W c k ast ok hc σ S Z H e wd re Q h
  unfold chks at hc
  split at hc
  · exact wA_of pa_nil (h _ Z H S _ (PR.here wd re .nil))
  · cases hc
/-- a later evaluation, told from the first state on -/
theorem RSpec.bindAt {α β α' β' : Type} {rep : β → α → Hp → Hp → AS → AS → Prop} {rep' : β' → α' → Hp → Hp → AS → AS → Prop} {r : Rs α} {f : α → Env → Rs α'} {Q : β' → Hp → Prop} {Q1 : β → Hp → Prop} {t1 : Bool} (w1 : Wd S1 Z1 H1) (g1 : Gr S Z H S1 Z1 H1)
    (k : ∀ a e', r = .ok a e' → ∀ b Z' H' S' Sv, PR X.K q1 t1 σ S1 Z1 H1 e' (rep b a) Z' H' S' Sv → RSpec X W cl rep' q t σ S Z H (f a e') Q → Q1 b H')
    (h : RSpec X W cl rep' q t σ S Z H (r.bind f) Q) : RSpec X W cl rep q1 t1 σ S1 Z1 H1 r Q1 := by
  cases r with
  | ok a e1 => exact fun b Z' H' S' Sv p => k a e1 rfl b Z' H' S' Sv p h
  | ex c e' => exact fun Z' H' S' p => h Z' H' S' (p.shift w1 g1)
  | no => exact h.elim
theorem good_econs {r : Es} (ha : GoodE F cl a) (hr : GoodEs F cl r) : GoodEs F cl (.cons a r) := by
  intro X W c k ast ok hc σ S Z H e wd re Q h
  unfold chks at hc
  split at hc
  · rename_i x xs
    simp only [Bool.and_eq_true] at hc
    unfold evEs at h
    refine wA_of (pa_cons pe_wE pa_wA (plain_star hc.1.2)) (ha false X W c k x ok hc.1.1 σ S Z H e wd re _ (RSpec.bindAt wd .refl (fun o1 e1 _ v1 Z1 H1 S1 Sv1 p1 h1 => ?_) h))
    refine hr X W c k xs ok hc.2 σ S1 Z1 H1 e1 p1.wd p1.re _ (RSpec.bindAt p1.wd p1.gr (fun o2 e2 _ v2 Z2 H2 S2 Sv2 p2 h2 => ?_) h1)
    have kp := kept_of p1 p2
    refine h2 (v1 :: v2) Z2 H2 S2 (Sor Sv1 Sv2) ⟨p2.wd, p1.gr.trans p1.wd p2.gr, p2.re, ?_, fun _ => ⟨?_, kp.wd.or (p2.apart rfl).2.1, kp.gr⟩, (fun z => nomatch z), fun z => ?_⟩
    · exact .cons (fst_kept p1 p2 (.inl rfl)) p2.ro (fun _ => .inl) (fun _ => .inr) fun a z => (kp.dj a z).2
    · intro a z y
      rcases y with y | y
      · exact (kp.dj a y).1 z
      · exact (p2.apart rfl).1 a z y
    · have z' : qt a = true ∧ qts r = true := by simpa [qts] using z
      exact ⟨(p1.quiet z'.1).1.trans (p2.quiet z'.2).1, (p2.quiet z'.2).2.1.trans (p1.quiet z'.1).2.1, fun a y => (p2.quiet z'.2).2.2 a ((p1.quiet z'.1).2.2 a y)⟩
  · cases hc
theorem ros_stay {vs : List V} {os : List O} (h : ROs K Z H vs os Sv) {p : Addr} {o : HO} (hp : H p = none) : ROs K Z (upd H p o) vs os Sv := ROs.stay (Ex.refl _) (ex_new hp).tx h fun a u _ z => ex_new hp a u z
theorem fzs_map : ∀ {os : List O} {ds : List PyData}, fzs os = some ds → os = ds.map .fz
  | [], _, h => by
    have e1 := Option.some.inj h
    subst e1
    rfl
  | .fz d :: os, _, h => by
    have h' : (fzs os).map (d :: ·) = some _ := h
    obtain ⟨es, e1, e2⟩ := Option.map_eq_some_iff.mp h'
    subst e2
    rw [fzs_map e1]
    rfl
  | .lst _ :: _, _, h => nomatch h
  | .tup _ :: _, _, h => nomatch h
  | .dk _ :: _, _, h => nomatch h
  | .dt _ :: _, _, h => nomatch h
theorem good_tup {es : Es} (ha : GoodEs F cl es) : GoodE F cl (.tup es) := by
  intro w X W c k ast ok hc σ S Z H e wd re Q h
  unfold chk at hc
  split at hc
  · rename_i xs n pos
    unfold ev at h
    refine wE_of (pe_tup pa_wA) (ha X W c k xs ok hc σ S Z H e wd re _ (RSpec.bindAt wd .refl (fun os e1 _ vs Z1 H1 S1 Sv1 p1 h1 => ?_) h))
    split at h1
    · rename_i cd
      refine ⟨by rw [ROs.length p1.ro]; exact room_le cd, fun p hp => ?_⟩
      unfold mkTup at h1
      have p1' : PR X.K (qt (.tup es)) true σ S Z H e1 (repOs X.K vs os) Z1 H1 S1 Sv1 := p1
      have ps := p1'.newT (p := p) (xs := vs) hp (R' := repOs X.K vs os) (ros_stay p1.ro hp)
      have st : TpX (upd H1 p (.tup vs)) p vs := upd_same
      cases hf : fzs os with
      | some ds =>
        rw [hf] at h1
        exact h1 (.ref p) Z1 _ S1 _ ((ps.flat (R' := repO X.K (.ref p) (.fz (.tuple ds))) (.fz (.tup st (fzs_ok hf ps.ro)))) |> fun z => by simpa [pl] using z)
      | none =>
        rw [hf] at h1
        have z : PR X.K (qt (.tup es)) true σ S Z H e1 (repO X.K (.ref p) (.tup os)) Z1 (upd H1 p (.tup vs)) S1 Sv1 := p1'.newT hp (.tup st (ros_stay p1.ro hp))
        exact h1 (.ref p) Z1 _ S1 _ (by simpa [pl] using z)
    · exact h1.elim
  · cases hc
theorem good_lst {es : Es} (ha : GoodEs F cl es) : GoodE F cl (.lst es) := by
  intro w X W c k ast ok hc σ S Z H e wd re Q h
  unfold chk at hc
  split at hc
  · rename_i xs pos
    unfold ev at h
    refine wE_of (pe_lst pa_wA) (ha X W c k xs ok hc σ S Z H e wd re _ (RSpec.bindAt wd .refl (fun os e1 _ vs Z1 H1 S1 Sv1 p1 h1 => ?_) h))
    split at h1
    · rename_i cd
      refine ⟨by rw [ROs.length p1.ro]; exact room_le cd, fun p hp => ?_⟩
      have p1' : PR X.K (qt (.lst es)) true σ S Z H e1 (repOs X.K vs os) Z1 H1 S1 Sv1 := p1
      have nS : ¬ Sv1 p := fun z => not_own_none (p1.apart rfl).2.1 z hp
      have z := p1'.newL (p := p) (o := .lst vs) hp True.intro (R' := repO X.K (.ref p) (.lst os)) (.lst upd_same (.inr rfl) (ros_stay p1.ro hp) (fun _ => .inl) nS)
      exact h1 (.ref p) Z1 _ S1 _ (by simpa [pl] using z)
    · exact h1.elim
  · cases hc
/-! ### items -/
def IxV (X : Cx) (σ : L2.St) (x y : V) (H : Hp) (Q : VK) : Prop := ∀ (value slice : Expr) pins s v u, Inv X pins σ H s → RelV x v → RelV y u → subscripted slice false v u = operate [v, u] (getItem v u) → wpAny (model X.prog X.w) X.A (subscriptTail value slice v u) (EP X pins σ Q) X.xe s
theorem ixV_of {r : R2} (h : IxR X r) {x y : V} {H : Hp} {Q : VK} (q : r x y H Q) : IxV X σ x y H Q := fun value slice pins s v u I rx ry hs => h value slice pins s σ H x y v u Q I rx ry q hs
theorem wE_ix {x y : Expr} {pos : Pos} {Q : VK} (hs : PlainIx y) (h : wE X x σ H fun v H1 => wE X y σ H1 fun u H2 => IxV X σ v u H2 Q) : wE X (.Subscript x y pos) σ H Q := fun pins s I =>
  Subscript_ (thn (h pins s I) fun v s1 ⟨x1, H1, I1, r1, q1⟩ => thn (q1 pins s1 I1) fun u s2 ⟨x2, H2, I2, r2, q2⟩ => q2 x y pins s2 v u I2 r1 r2 (hs _ _))
theorem plain_ix {y : Expr} (h : plainB y = true) : PlainIx y := by
  intro o i
  cases y <;> first | rfl | (simp [plainB] at h)
theorem er_int {y : O} {j : Int} (h : er y = .int j) : y = .fz (.int j) := by
  cases y with
  | fz d => rw [er] at h; rw [h]
  | _ => simp [er] at h
theorem ixV_dict {X : Cx} {σ : L2.St} {a : Addr} {y w : V} {H : Hp} {Q : VK} (hu : X.A.units + 1 < cLine) (g : DGet H a y (some w)) (q : Q w H) : IxV X σ (.ref a) y H Q := by
  intro value slice pins s x u I rx ry hs
  cases (show x = Value.ref a from rx)
  have hT := dict_typeIs I g
  unfold subscriptTail
  refine wpAny_bind ?_
  rw [getitemInPython_of_ne hT.not_modules]
  refine wpAny_bind (wpAny_specialOf hT PySem.F.slot_dict_getitem.lookup ?_)
  have fin : wpAny (model X.prog X.w) X.A (subscripted slice false (.ref a) u) (fun r s₃ => wpAny (model X.prog X.w) X.A (letTemporaryGo value (.ref a) r >>= fun _ => pure r) (EP X pins σ Q) X.xe s₃) X.xe s := by
    rw [hs]
    exact wpAny_operating (wpAny_mono (d_getItem hu I g ry fun w' s' I' r' => (⟨w, H, I', r', q⟩ : EP X pins σ Q w' s')) (fun r s₃ h₃ => wpAny_bind (wpAny_letTemporaryGo (wpAny_pure h₃))) fun _ _ x => x)
  first
    | exact wpAny_pure (wpAny_bind fin)
    | exact wpAny_bind (wpAny_pure (wpAny_bind fin))
    | exact wpAny_bind fin
theorem item_ok {X : Cx} {σ : L2.St} {Z H : Hp} {v u : V} {x y o : O} {S T : AS} (hu : X.A.units + 1 < cLine) (h : itemO x (er y) = some o) (rx : RO X.K Z H v x S) (ry : RO X.K Z H u y T) (zh : Ex Z H) : ∃ w B, RO X.K Z H w o B ∧ (∀ a, B a → S a) ∧ ∀ Q : VK, Q w H → IxV X σ v u H Q := by
  unfold itemO at h
  split at h
  · rename_i o' e3
    cases h
    obtain ⟨j, ej⟩ := seqO_key e3
    rw [ej] at e3
    have ey := er_int ej
    subst ey
    cases ry.int
    obtain ⟨w3, B, g1, g2, g3⟩ := seqO_okE e3 rx zh
    exact ⟨w3, B, g1, g2, fun Q q => ixV_of ix_seq (g3 Q q)⟩
  · obtain ⟨a, w, B, rfl, g1, g2, g3⟩ := dictO_ok h rx ry zh
    exact ⟨w, B, g2, g3, fun Q q => ixV_dict hu g1 q⟩
theorem good_ix (ha : GoodE F cl a) (hb : GoodE F cl b) : GoodE F cl (.ix a b) := by
  intro w X W c k ast ok hc σ S Z H e wd re Q h
  unfold chk at hc
  split at hc
  · rename_i x y pos
    simp only [Bool.and_eq_true] at hc
    unfold ev at h
    refine wE_ix (plain_ix hc.2) (ha true X W c k x ok hc.1.1 σ S Z H e wd re _ (RSpec.bind (q2 := qt b) (fun z => by simpa [qt] using z) (fun o1 e1 _ v1 Z1 H1 S1 Sv1 p1 h1 => ?_) h))
    refine hb false X W c k y ok hc.1.2 σ S1 Z1 H1 e1 p1.wd p1.re _ (RSpec.bind (q2 := true) (fun z => ⟨z, rfl⟩) (fun o2 e2 _ v2 Z2 H2 S2 Sv2 p2 h2 => ?_) h1)
    split at h2
    · rename_i cd
      split at h2
      · rename_i o3 e3
        have r1 := fst_kept p1 p2 (by simpa using cond3 cd)
        obtain ⟨w3, T, g1, g2, g3⟩ := item_ok (σ := σ) (by have := ok.hu; omega) e3 r1 p2.ro p2.wd.zh
        refine g3 Q ?_
        split at h2
        · rename_i cf
          cases hz : isFz o3 with
          | true =>
            obtain ⟨d, rfl⟩ := isFz_eq hz
            exact h2 w3 Z2 H2 S2 _ (PR.here p2.wd p2.re (.fz g1.rd))
          | false =>
            rw [hz, Bool.false_or] at cf
            have cf2 : pl a = true ∧ qt b = true := by
              simp only [Bool.and_eq_true] at cf
              exact ⟨cf.1.2, cf.2⟩
            have z : PR X.K true false σ S2 Z2 H2 e2 (repO X.K w3 o3) Z2 H2 S2 T := PR.view p2.wd p2.re g1 fun a z => (p2.quiet cf2.2).2.2 a (p1.sub (by rw [cf2.1]; rfl) a (g2 a z))
            have cg : (w && pl (.ix a b)) = true := by rw [pl, ← Bool.and_assoc]; exact cf
            rw [cg] at h2
            exact h2 w3 Z2 H2 S2 T z
        · exact h2.elim
      · exact h2.elim
    · exact h2.elim
  · cases hc
/-! ### {} -/
theorem good_dkn : GoodE F cl .dkn := by
  intro w X W c k ast ok hc σ S Z H e wd re Q h
  unfold chk at hc
  split at hc
  · unfold ev at h
    refine wE_of pe_dnewK (fun p hp => ?_)
    have p0 : PR X.K true true σ S Z H e (repOs X.K [] []) Z H S (fun _ => False) := PR.here wd re .nil
    have z := p0.newL (p := p) (o := .dK []) hp True.intro (R' := repO X.K (.ref p) (.dk [])) (.dk (S' := fun _ => False) upd_same (.inr rfl) .nil (fun _ z => z.elim) fun z => z)
    exact h (.ref p) Z _ S _ (by simpa [pl, qt] using z)
  · cases hc
theorem good_dtn : GoodE F cl .dtn := by
  intro w X W c k ast ok hc σ S Z H e wd re Q h
  unfold chk at hc
  split at hc
  · unfold ev at h
    refine wE_of pe_dnewT (fun p hp => ?_)
    have p0 : PR X.K true true σ S Z H e (repOs X.K [] []) Z H S (fun _ => False) := PR.here wd re .nil
    have z := p0.newL (p := p) (o := .dT []) hp True.intro (R' := repO X.K (.ref p) (.dt [])) (.dt (S' := fun _ => False) upd_same (.inr rfl) .nil (fun _ z => z.elim) fun z => z)
    exact h (.ref p) Z _ S _ (by simpa [pl, qt] using z)
  · cases hc
/-- a dict locked for ever -/
theorem PR.lock {a : Addr} {kvs : List (Key × O)} {q2 : Bool} (hq : q2 = false) (h : PR K q true σ S Z H e (repO K (.ref a) (.dk kvs)) Z1 H1 S1 Sv) : ∃ xs, H1 a = some (.dK xs) ∧ ∀ od,
    PR K q2 t σ S Z H e (repO K (.ref a) (.fz (.dict ((.none, .bool true) :: erk kvs)))) (frzZ Z1 (upd H1 a (.frz od (.dK xs))) Sv) (upd H1 a (.frz od (.dK xs))) S1 (fun _ => False) := by
  obtain ⟨a1, a2, a3⟩ := h.apart rfl
  cases (show RO K Z1 H1 (.ref a) (.dk kvs) Sv from h.ro) with
  | dk g1 g2 g3 g4 g5 =>
    rename_i xs S'
    refine ⟨xs, g1, fun od => ?_⟩
    have ne : ∀ {A : AS}, ¬ A a → ∀ x u, A x → H1 x = some u → upd H1 a (.frz od (.dK xs)) x = some u := fun {A} n x u z y => by
      rw [upd_ne fun k => n (by rw [← k]; exact z)]
      exact y
    have tx : Tx K H1 (upd H1 a (.frz od (.dK xs))) := fun b ys z => by
      have e1 : b ≠ a := fun k => by
        have z' : H1 b = some (.tup ys) := z
        rw [k, g1] at z'
        cases z'
      show upd H1 a _ b = _
      rw [upd_ne e1]
      exact z
    have ez : Ex Z1 (frzZ Z1 (upd H1 a (.frz od (.dK xs))) Sv) := frzZ_ex0 a2
    have g3' := ROk.stay (Ex.refl _) tx g3 (ne g5)
    have rk := ROk.frz ez g3' fun x u z y => by rw [frzZ_in (g4 x z)]; exact y
    have za : frzZ Z1 (upd H1 a (.frz od (.dK xs))) Sv a = some (.frz od (.dK xs)) := by rw [frzZ_in g2, upd_same]
    have zh : Ex (frzZ Z1 (upd H1 a (.frz od (.dK xs))) Sv) (upd H1 a (.frz od (.dK xs))) := fun b o z => by
      by_cases y : Sv b
      · rw [frzZ_in y] at z
        exact z
      · rw [frzZ_out y] at z
        rw [upd_ne fun k => y (by rw [k]; exact g2)]
        exact h.wd.zh b o z
    have w : Wd S1 (frzZ Z1 (upd H1 a (.frz od (.dK xs))) Sv) (upd H1 a (.frz od (.dK xs))) := ⟨zh, fun b z => by
      rw [frzZ_out (a1 b z), upd_ne fun k => a1 b z (by rw [k]; exact g2)]
      exact h.wd.own b z⟩
    have g : Gr S Z H S1 (frzZ Z1 (upd H1 a (.frz od (.dK xs))) Sv) (upd H1 a (.frz od (.dK xs))) := ⟨a3.z.trans ez, fun b o z n => by
      have e1 : b ≠ a := fun k => by
        rw [k] at z n
        rcases a3.new a (.inl (.inr g2)) with y | y | y
        · exact n y
        · rw [y] at z; cases z
        · cases zz : Z a with
          | none => exact y zz
          | some o' =>
            have := a3.z a o' zz
            rw [(a2.own a g2).1] at this
            cases this
      rw [upd_ne e1]
      exact a3.keep b o z n, fun b z => by
      rcases z with z | z
      · exact a3.new b (.inl (.inl z))
      · by_cases y : Sv b
        · exact a3.new b (.inl (.inr y))
        · rw [frzZ_out y] at z
          exact a3.new b (.inr z)⟩
    exact ⟨w, g, h.re.stay ez tx (ne fun z => a1 a z g2), .fz (.lk za rk), fun _ => ⟨fun _ _ z => z, ⟨zh, fun _ z => z.elim⟩, g.subR fun _ z => z.elim (fun y => y) fun y => y.elim⟩, fun _ _ z => z.elim, fun z => by rw [hq] at z; cases z⟩
theorem wE_lock {X : Cx} {x : Expr} {Q : VK} (h : wE X x σ H fun v H1 => ∃ d u, v = .ref d ∧ H1 d = some u ∧ Mut (some u) ∧ ∀ od, Q v (upd H1 d (.frz od u))) : wE X x σ H Q := fun pins s I =>
  thn (h pins s I) fun u s' ⟨v, H', I', r, d, o, _, hd, mu, q⟩ =>
    let ⟨od, I2⟩ := I'.lock hd mu
    ⟨v, _, I2, r, q od⟩
theorem good_lck (ha : GoodE F cl a) : GoodE F cl (.lck a) := by
  intro w X W c k ast ok hc σ S Z H e wd re Q h
  unfold chk at hc
  unfold ev at h
  refine wE_lock (ha false X W c k ast ok hc σ S Z H e wd re _ (RSpec.bindAt wd .refl (fun o1 e1 _ v1 Z1 H1 S1 Sv1 p1 h1 => ?_) h))
  split at h1
  · rename_i kvs _
    have p1' : PR X.K (qt a) true σ S Z H e1 (repO X.K v1 (.dk kvs)) Z1 H1 S1 Sv1 := p1
    have ro := (show RO X.K Z1 H1 v1 (.dk kvs) Sv1 from p1'.ro)
    cases ro with
    | dk g1 g2 g3 g4 g5 =>
      obtain ⟨xs, g0, p2⟩ := PR.lock (t := !(w && pl (.lck a))) (q2 := qt (.lck a)) rfl p1'
      exact ⟨_, _, rfl, g0, True.intro, fun od => h1 _ _ _ S1 _ (p2 od)⟩
  · exact h1.elim
theorem good_lkv {i : Nat} : GoodE F cl (.lkv i) := by
  intro w X W c k ast ok hc σ S Z H e wd re Q h
  unfold chk at hc
  split at hc
  · rename_i x pos
    unfold ev at h
    split at h
    · rename_i kvs he
      obtain ⟨v, S1, S2, h1, h2, h3, h4, h5, h6⟩ := re.at he
      have p0 : PR X.K false true σ S Z H (e.set i none) (repO X.K v (.dk kvs)) Z H S2 S1 := ⟨wd.sub h4, Gr.refl.subR h4, h6, h2, fun _ => ⟨fun a z y => h5 a y z, wd.sub h3, Gr.refl.subR fun a z => z.elim (h4 a) (h3 a)⟩, (fun z => nomatch z), fun z => nomatch z⟩
      have h2' := h2
      cases h2' with
      | dk g1 g2 g3 g4 g5 =>
        rename_i a xs S'
        obtain ⟨xs', g0, p2⟩ := PR.lock (t := !(w && pl (.lkv i))) (q2 := qt (.lkv i)) rfl p0
        refine wE_lock (wE_of (ok.name hc) ⟨_, h1, a, _, rfl, g0, True.intro, fun od => ?_⟩)
        have p3 := p2 od
        have re3 := p3.re.put h1 (show RO X.K _ _ (.ref a) (.fz (.dict ((.none, .bool true) :: erk kvs))) (fun _ => False) from p3.ro) fun _ z => z.elim
        have es : (e.set i none).set i (some (.fz (.dict ((.none, .bool true) :: erk kvs)))) = e.set i (some (.fz (.dict ((.none, .bool true) :: erk kvs)))) := List.set_set ..
        rw [es] at re3
        exact h _ _ _ S2 _ ⟨p3.wd, p3.gr, re3.up fun x z => z.elim (fun y => y.elim) id, p3.ro, p3.apart, p3.sub, p3.quiet⟩
    · rename_i d he
      obtain ⟨v, S1, S2, h1, h2, h3, h4, h5, h6⟩ := re.at he
      refine wE_of (ok.name hc) ⟨v, h1, ?_⟩
      exact h v Z H S _ (PR.here wd re (show RO X.K Z H v (.fz d) _ from .fz h2.rd0))
    · exact h.elim
  · cases hc
theorem good_frz (ha : GoodE F cl a) : GoodE F cl (.frz a) := by
  intro w X W c k ast ok hc σ S Z H e wd re Q h
  unfold chk at hc
  unfold ev at h
  refine ha false X W c k ast ok hc σ S Z H e wd re _ (RSpec.bindAt wd .refl (fun o1 e1 _ v1 Z1 H1 S1 Sv1 p1 h1 => ?_) h)
  exact h1 v1 _ H1 S1 _ (PR.freeze rfl (show PR X.K (qt a) true σ S Z H e1 (repO X.K v1 o1) Z1 H1 S1 Sv1 from p1))
/-! ### slices -/
def wO (X : Cx) (e : Option Expr) : TO := fun σ H Q => ∀ pins s, Inv X pins σ H s → wpAny (model X.prog X.w) X.A (evalPart e X.env) (fun u s' => ∃ o H', Inv X pins σ H' s' ∧ IsPart u o ∧ Q o H') X.xe s
theorem po_wO {e : Option Expr} : PO X e (wO X e) := ⟨fun pins s σ H Q I h => h pins s I⟩
theorem wO_of {e : Option Expr} {t : TO} (h : PO X e t) {Q : Option Int → Hp → Prop} (q : t σ H Q) : wO X e σ H Q := fun pins s I => h.run pins s σ H Q I q
def GoodO (F : Fns) (cl : Str → Value) (oe : OE) : Prop := ∀ (X : Cx) (W : WX) (c : CT) (k : Nat) (x : Option Expr), XOk c F cl k W X → chkO c oe x = true → ∀ (σ : L2.St) (S : AS) (Z H : Hp) (e : Env), Wd S Z H → RE X.K Z H σ e S →
  SR X W cl repId (qtO oe) true (wO X x) σ S Z H (evOI F oe e)
theorem good_ono : GoodO F cl .no := by
  intro X W c k ast ok hc σ S Z H e wd re Q h
  unfold chkO at hc
  split at hc
  · exact wO_of po_none (h none Z H S _ (PR.here wd re rfl))
  · cases hc
theorem good_oso (ha : GoodE F cl a) : GoodO F cl (.so a) := by
  intro X W c k ast ok hc σ S Z H e wd re Q h
  unfold chkO at hc
  split at hc
  · unfold evOI at h
    refine wO_of (po_some pe_wE) (ha false X W c k _ ok hc σ S Z H e wd re _ (RSpec.bind (q2 := true) (fun z => ⟨by simpa [qtO] using z, rfl⟩) (fun o1 e1 _ v1 Z1 H1 S1 Sv1 p1 h1 => ?_) h))
    obtain ⟨r, rfl, h3⟩ := intOf_ok h1
    cases (show RO _ _ _ _ _ _ from p1.ro).int
    exact ⟨_, rfl, h3 _ Z1 H1 S1 _ (PR.here p1.wd p1.re rfl)⟩
  · cases hc
theorem good_sl {lo hi : OE} (ha : GoodE F cl a) (hl : GoodO F cl lo) (hh : GoodO F cl hi) : GoodE F cl (.sl a lo hi) := by
  intro w X W c k ast ok hc σ S Z H e wd re Q h
  unfold chk at hc
  split at hc
  · rename_i x l u p2 pos
    simp only [Bool.and_eq_true] at hc
    unfold ev at h
    refine wE_of (pe_slice (sl_list.or sl_str) pe_wE po_wO po_wO) (ha true X W c k x ok hc.1.1 σ S Z H e wd re _ (RSpec.bind (q2 := qtO lo && qtO hi) (fun z => by simpa [qt, Bool.and_assoc] using z) (fun o1 e1 _ v1 Z1 H1 S1 Sv1 p1 h1 => ?_) h))
    refine hl X W c k l ok hc.1.2 σ S1 Z1 H1 e1 p1.wd p1.re _ (RSpec.bindAt p1.wd .refl (fun o2 e2 _ v2 Z2 H2 S2 Sv2 p2 h2 => ?_) h1)
    refine hh X W c k u ok hc.2 σ S2 Z2 H2 e2 p2.wd p2.re _ (RSpec.bindAt p2.wd p2.gr (fun o3 e3 _ v3 Z3 H3 S3 Sv3 p3 h3 => ?_) h2)
    have p23 : PR X.K (qtO lo && qtO hi) true σ S1 Z1 H1 e3 (repId v3 o3) Z3 H3 S3 Sv3 := p3.shift p2.wd p2.gr fun z => by
      have z' : qtO lo = true ∧ qtO hi = true := by simpa using z
      exact ⟨z'.2, p2.quiet z'.1⟩
    split at h3
    · rename_i cd
      obtain ⟨o4, e4, h4⟩ := RSpec.of h3
      have r1 := fst_kept p1 p23 (by simpa using cond3 cd)
      have ev2 : v2 = o2 := p2.ro
      have ev3 : v3 = o3 := p3.ro
      subst ev2 ev3
      refine sliceO_ok e4 r1 p3.wd.zh fun w5 H5 S5 n5 => h4 w5 Z3 H5 S3 S5 ?_
      exact (n5.pr (q := true) (by simp [pl]) p3.wd p3.re).shift p3.wd p23.gr (fun z => ⟨rfl, p23.quiet z⟩)
    · exact h3.elim
  · cases hc
theorem good_rev (ha : GoodE F cl a) : GoodE F cl (.rev a) := by
  intro w X W c k ast ok hc σ S Z H e wd re Q h
  unfold chk at hc
  split at hc
  · unfold ev at h
    refine wE_of (pe_revL pe_wE) (ha true X W c k _ ok hc σ S Z H e wd re _ (RSpec.bind (q2 := true) (fun z => ⟨by simpa [qt] using z, rfl⟩) (fun o1 e1 _ v1 Z1 H1 S1 Sv1 p1 h1 => ?_) h))
    obtain ⟨o4, e4, h4⟩ := RSpec.of h1
    obtain ⟨ds, e5, e6⟩ := Option.map_eq_some_iff.mp e4
    subst e6
    obtain ⟨l, xs, rfl, g1, g2⟩ := listOf_ok e5 p1.ro p1.wd.zh
    refine ⟨l, xs, rfl, g1, fun p hp => h4 _ Z1 _ S1 _ ((NP.list g2.reverse hp).pr (by simp [pl]) p1.wd p1.re)⟩
  · cases hc
end
end Rim
namespace Rim
open PySem PySem.Spec PyProof.Rows L2

/-! ### built-ins -/
def rCV (X : Cx) (f : Value) : List V → Hp → VK → Prop := fun xs H Q => ∀ σ, CallV X f σ xs H Q
theorem call_rCV {X : Cx} {f : Value} : CallR X f (rCV X f) := fun pins s σ H xs us Q I r h => h σ pins s us I r
theorem boot_bl1 : ∀ f : Bl1, bootBuiltins (bl1N f) = some (bl1V f)
  | .len => by decide +kernel
  | .abs => by decide +kernel
  | .int => by decide +kernel
  | .str => by decide +kernel
  | .sorted => by decide +kernel
  | .list => by decide +kernel
  | .all => by decide +kernel
  | .tuple => by decide +kernel
  | .min => by decide +kernel
  | .max => by decide +kernel
theorem boot_ty : ∀ t : Ty, bootBuiltins (Str.ofString t.n) = some (.type t.n)
  | .int => by decide +kernel
  | .bool => by decide +kernel
  | .str => by decide +kernel
  | .list => by decide +kernel
  | .tuple => by decide +kernel
theorem bl1V_two : ∀ f : Bl1, (∃ id, bl1V f = .builtin id) ∨ ∃ T, bl1V f = .type T
  | .len => .inl ⟨_, rfl⟩
  | .abs => .inl ⟨_, rfl⟩
  | .int => .inr ⟨_, rfl⟩
  | .str => .inr ⟨_, rfl⟩
  | .sorted => .inl ⟨_, rfl⟩
  | .list => .inr ⟨_, rfl⟩
  | .all => .inl ⟨_, rfl⟩
  | .tuple => .inr ⟨_, rfl⟩
  | .min => .inl ⟨_, rfl⟩
  | .max => .inl ⟨_, rfl⟩
/-- no stars -/
def plainsB (es : List Expr) : Bool := es.all plainB
theorem nostars {pos : Pos} {env : PySem.Env} : ∀ {es : List Expr}, plainsB es = true → (backTo pos (starEach es env)).any (·.1) = false
  | [], _ => rfl
  | a :: es, h => by
    have h' : plainB a = true ∧ plainsB es = true := by simpa [plainsB] using h
    rw [plain_star h'.1]
    have ih := nostars (pos := pos) (env := env) h'.2
    unfold backTo at ih ⊢
    simpa using ih
section
variable {c : CT} {F : Fns} {cl : Str → Value} {k : Nat} {W : WX} {X : Cx} {σ : L2.St} {S S1 S2 Sv Sv1 Sv2 T B : AS} {Z H Z1 H1 Z2 H2 : Hp} {e e1 e2 : Env} {a b : E} {x : Str} {q1 : Bool} {R1 : Hp → Hp → AS → AS → Prop}
theorem XOk.bltn (ok : XOk c F cl k W X) (h : bltB c x = true) : Gl X x ∧ (x == ("__debug__" : Str)) = false ∧ X.mg x = none ∧ x ≠ ("__name__" : Str) := by
  unfold bltB at h
  simp only [Bool.and_eq_true, decide_eq_true_eq] at h
  exact ⟨(ok.gl h.1.1).1, (ok.gl h.1.1).2, ok.bl x h.1.2, h.2⟩
theorem pe_bl {f : Value} {es : List Expr} {ast : Expr} {p pos : Pos} (ok : XOk c F cl k W X) (hx : bltB c x = true) (hv : bootBuiltins x = some f) (two : (∃ id, f = .builtin id) ∨ ∃ T, f = .type T) (h1 : plainB ast = true) (h2 : plainsB es = true) {t : TA} (ha : PA X (ast :: es) t) :
    PE X (.Call (.Name x p) (ast :: es) [] pos) (tCB (rCV X f) t) := by
  obtain ⟨b1, b2, b3, b4⟩ := ok.bltn hx
  rcases two with ⟨id, rfl⟩ | ⟨T, rfl⟩
  · exact pe_callB call_rCV b1 b3 hv ha b4 b2 (plain_star h1) (nostars h2)
  · exact pe_callTy call_rCV b1 b3 hv ha b4 b2 (plain_star h1) (nostars h2)
theorem good_bl1 {f : Bl1} (ha : GoodE F cl a) : GoodE F cl (.bl1 f a) := by
  intro w X W c k ast ok hc σ S Z H e wd re Q h
  unfold chk at hc
  split at hc
  · rename_i x p y pos
    simp only [Bool.and_eq_true] at hc
    obtain ⟨hc, hcm⟩ := hc
    have hcm' : bl1C f = true → X.calm = true := fun z => ok.calm (by simpa [z] using hcm)
    have ex := of_decide_eq_true hc.1.1.1
    subst ex
    unfold ev at h
    refine wE_of (pe_bl ok hc.1.1.2 (boot_bl1 f) (bl1V_two f) hc.2 rfl (pa_cons pe_wE pa_nil (plain_star hc.2))) (ha true X W c k y ok hc.1.2 σ S Z H e wd re _ (RSpec.bind (q2 := true) (fun z => ⟨by simpa [qt] using z, rfl⟩) (fun o1 e1 _ v1 Z1 H1 S1 Sv1 p1 h1 => ?_) h))
    obtain ⟨o3, e3, h3⟩ := RSpec.of h1
    exact fun σ' => bl1O_ok hcm' e3 p1.ro p1.wd.zh fun w3 H3 S3 n3 => h3 w3 Z1 H3 S1 S3 (n3.pr (by simp [pl]) p1.wd p1.re)
  · cases hc
theorem good_isi {t : Ty} (ha : GoodE F cl a) : GoodE F cl (.isi a t) := by
  intro w X W c k ast ok hc σ S Z H e wd re Q h
  unfold chk at hc
  split at hc
  · rename_i x p y z p2 pos
    simp only [Bool.and_eq_true] at hc
    have ex := of_decide_eq_true hc.1.1.1.1.1
    have ez := of_decide_eq_true hc.1.1.1.2
    subst ex ez
    unfold ev at h
    obtain ⟨b1, b2, b3, b4⟩ := ok.bltn hc.1.1.2
    refine wE_of (pe_bl ok hc.1.1.1.1.2 boot_isinstance (.inl ⟨_, rfl⟩) hc.2 rfl (pa_cons pe_wE (pa_cons (pe_bltn (v := .ty t.n) b1 b3 (boot_ty t) rfl b4 b2) pa_nil) (plain_star hc.2))) (ha true X W c k y ok hc.1.2 σ S Z H e wd re _ (RSpec.bind (q2 := true) (fun z => ⟨by simpa [qt] using z, rfl⟩) (fun o1 e1 _ v1 Z1 H1 S1 Sv1 p1 h1 => ?_) h))
    obtain ⟨o3, e3, h3⟩ := RSpec.of h1
    obtain ⟨r, e4, e5⟩ := Option.map_eq_some_iff.mp e3
    subst e5
    unfold isiO at e4
    split at e4
    · cases e4
    · rename_i nd
      cases e4
      exact fun σ' => isi_ok (RO.view p1.ro p1.wd.zh) nd (h3 _ Z1 H1 S1 _ (PR.here p1.wd p1.re (.fz (.bl _))))
  · cases hc
theorem RDk.keys {K : PySem.W.Frag} : ∀ {vs : List (Key × V)} {ds : List (PyData × PyData)}, RDk K Z H vs ds → ∀ p ∈ ds, ∃ k, p.1 = keyD k
  | _, _, .nil, p, h => by cases h
  | _, _, .cons (k := k) _ r, p, h => by
    rcases List.mem_cons.mp h with e | h
    · exact ⟨k, by rw [e]⟩
    · exact RDk.keys r p h
theorem RDt.keys {K : PySem.W.Frag} : ∀ {vs : List (List Key × V)} {ds : List (PyData × PyData)}, RDt K Z H vs ds → ∀ p ∈ ds, ∃ k, p.1 = keyTD k
  | _, _, .nil, p, h => by cases h
  | _, _, .cons (k := k) _ r, p, h => by
    rcases List.mem_cons.mp h with e | h
    · exact ⟨k, by rw [e]⟩
    · exact RDt.keys r p h
theorem HxK.pe {h : Str} {pos : Pos} (ok : XOk c F cl k W X) (hh : h ∈ c.hx) (hg : glB c h = true) : ∃ v, PE X (.Name h pos) (tC v) ∧ RelV v (cl h) ∧ ∀ u, RelV v u → u = cl h := by
  obtain ⟨g1, g2⟩ := ok.gl hg
  rcases ok.hxk h hh with ⟨m, D, e⟩ | ⟨m, b, n, T, e⟩
  · exact ⟨.ref D, pe_glob g1 m e g2, e, fun u r => by rw [e]; exact r⟩
  · exact ⟨.ty T, pe_bltn g1 m b e n g2, e, fun u r => by rw [e]; exact r⟩
theorem chkHs_pe (ok : XOk c F cl k W X) : ∀ {cs : List Str} {xs : List Expr}, chkHs c cs xs = true → ∃ vs, (∀ t : TA, True) ∧ PA X xs (fun _ H Q => Q vs H) ∧ vs.length = cs.length ∧ ∀ us, Vals vs us → us = cs.map cl
  | [], [], _ => ⟨[], fun _ => True.intro, pa_nil, rfl, fun us r => by cases r; rfl⟩
  | h :: hs, x :: xs, q => by
    unfold chkHs at q
    split at q
    · rename_i e1 e2
      cases e1
    · rename_i h' hs' y p xs' e1 e2
      cases e1
      cases e2
      rw [Bool.and_eq_true] at q
      unfold hxB at q
      simp only [Bool.and_eq_true, decide_eq_true_eq] at q
      obtain ⟨⟨⟨q1, q2⟩, q3⟩, q4⟩ := q
      subst q1
      obtain ⟨v, p1, p2, p3⟩ := HxK.pe (pos := p) ok q3 q2
      obtain ⟨vs, _, r1, r2, r3⟩ := chkHs_pe ok q4
      refine ⟨v :: vs, fun _ => True.intro, pa_cons p1 r1, by rw [List.length_cons, List.length_cons, r2], fun us r => ?_⟩
      cases r with
      | cons a b => rw [p3 _ a, r3 _ b]; rfl
    · cases q
  | [], _ :: _, q => by simp [chkHs] at q
  | _ :: _, [], q => by simp [chkHs] at q
theorem kitAny_any {K : PySem.W.Frag} {t : Value} {f : Str → Bool} : ∀ {cs : List Str}, (∀ h ∈ cs, PySem.W.kitOne K t (cl h) = some (f h)) → PySem.W.kitAny K t (cs.map cl) = some (cs.any f)
  | [], _ => rfl
  | h :: hs, q => by
    have e := q h List.mem_cons_self
    have ih := kitAny_any (cs := hs) fun x y => q x (List.mem_cons_of_mem _ y)
    rw [List.map_cons, PySem.W.kitAny, e]
    cases z : f h with
    | true => simp [z]
    | false => simp [z, ih]
theorem chkHs_mem : ∀ {cs : List Str} {xs : List Expr}, chkHs c cs xs = true → ∀ h ∈ cs, h ∈ c.hx
  | [], _, _, h, q => by cases q
  | g :: gs, [], q, _, _ => by simp [chkHs] at q
  | g :: gs, x :: xs, q, h, m => by
    unfold chkHs at q
    split at q
    · rename_i e1 e2
      cases e1
    · rename_i h' hs' y p xs' e1 e2
      cases e1
      cases e2
      rw [Bool.and_eq_true] at q
      unfold hxB at q
      simp only [Bool.and_eq_true, decide_eq_true_eq] at q
      rcases List.mem_cons.mp m with e | m
      · rw [e]; exact q.1.2
      · exact chkHs_mem q.2 h m
    · cases q
/-- an exception's object -/
theorem exc_at {a D : Addr} {oe : Obj} {s : Shared} {pins : List (Addr × Obj)} (I : Inv X pins σ H s) (h : H a = some (.ext fun h => h.get? a = some oe)) (e1 : oe.cls = .ref D) (e2 : oe.dict = none) (e3 : ∃ vs, oe.data = .fields vs) : PySem.W.InstAt s.heap a oe D none := by
  obtain ⟨vs, e3⟩ := e3
  obtain ⟨g, _⟩ := I.hok a _ h
  obtain ⟨oc, od, oda, osl⟩ := oe
  dsimp only at e1 e2 e3
  subst e1 e2 e3
  exact ⟨g, rfl, rfl, trivial⟩
theorem good_isx {cs ex : List Str} (ha : GoodE F cl a) : GoodE F cl (.isx a cs ex) := by
  intro w X W c k ast ok hc σ S Z H e wd re Q h
  unfold chk at hc
  split at hc
  · rename_i x p y z pos
    simp only [Bool.and_eq_true] at hc
    obtain ⟨⟨⟨⟨⟨k1, k2⟩, k3⟩, k4⟩, k5⟩, k6⟩ := hc
    have ex1 := of_decide_eq_true k1
    subst ex1
    unfold ev at h
    have leaf : ∀ {o1 : O} {v1 : V} {Z1 H1 : Hp} {S1 : AS} {r : Bool}, Ex Z1 H1 → RO X.K Z1 H1 v1 o1 S1 → isxO ex cs o1 = some r → ∃ a0 D oe cn, v1 = .ref a0 ∧ H1 a0 = some (.ext fun h => h.get? a0 = some oe) ∧ oe.cls = .ref D ∧ oe.dict = none ∧ (∃ vs, oe.data = .fields vs) ∧ r = cs.any (excSub cn) ∧ ExcC X.K D ∧ ∀ h ∈ c.hx, PySem.W.kitOne X.K (.ref D) (cl h) = some (excSub cn h) := by
      intro o1 v1 Z1 H1 S1 r zh ro q
      unfold isxO at q
      obtain ⟨cn, q1, q2⟩ := Option.bind_eq_some_iff.mp q
      unfold excOf at q1
      split at q1
      · rename_i c0
        cases q1
        split at q2
        · rename_i hm
          cases q2
          have hce := List.all_eq_true.mp k5 cn (of_decide_eq_true hm)
          obtain ⟨D, n1, n2, n3, n4, n5, n6, n7, n8, n9⟩ := ok.exk cn (of_decide_eq_true hce)
          cases ro.rd with
          | dk _ r =>
            obtain ⟨kk, ek⟩ := RDk.keys r _ (List.mem_singleton.mpr rfl)
            cases kk <;> cases ek
          | dt _ r =>
            obtain ⟨kk, ek⟩ := RDt.keys r _ (List.mem_singleton.mpr rfl)
            cases ek
          | exc g1 g2 g3 g4 g5 =>
            rw [n1] at g2
            cases g2
            exact ⟨_, _, _, cn, rfl, zh _ _ g1, g3, g4, g5, rfl, n8, fun h hh => (n9 h hh).1⟩
        · cases q2
      · cases q1
    unfold chkCl at k6
    split at k6
    · rename_i x2 p2
      split at k6
      · rename_i h1
        unfold hxB at k6
        simp only [Bool.and_eq_true, decide_eq_true_eq] at k6
        obtain ⟨⟨j1, j2⟩, j3⟩ := k6
        subst j1
        obtain ⟨v, q1, q2, q3⟩ := HxK.pe (pos := p2) ok j3 j2
        refine wE_of (pe_bl ok k2 boot_isinstance (.inl ⟨_, rfl⟩) k4 rfl (pa_cons pe_wE (pa_cons q1 pa_nil) (plain_star k4))) (ha true X W c k y ok k3 σ S Z H e wd re _ (RSpec.bind (q2 := true) (fun z => ⟨by simpa [qt] using z, rfl⟩) (fun o1 e1 _ v1 Z1 H1 S1 Sv1 p1 h1 => ?_) h))
        obtain ⟨o3, e3, h3⟩ := RSpec.of h1
        obtain ⟨r, e4, e5⟩ := Option.map_eq_some_iff.mp e3
        subst e5
        obtain ⟨a0, D, oe, cn, rfl, g1, g2, g3, g4, rfl, g5, g6⟩ := leaf p1.wd.zh p1.ro e4
        have fin := h3 _ Z1 H1 S1 _ (PR.here p1.wd p1.re (.fz (.bl _)))
        intro σ' pins s us I r
        cases r with
        | cons ra rr =>
          cases rr with
          | cons rb rr =>
            cases rr
            cases ra
            have eb := q3 _ rb
            subst eb
            have one : [x2].any (excSub cn) = excSub cn x2 := by simp
            rw [one] at fin
            exact PySem.W.kia_one (PySem.W.handS_kitx_exc g5.hg g5.hk g5.hs g5.hd g5.ha g5.hn g5.ht g5.hm) I.kIn (exc_at I g1 g2 g3 g4) (g6 _ j3) (fun z => nomatch z) fun tk => ⟨.bl _, H1, I.kept (t' := tk) fun _ _ z => z, rfl, fin⟩
      · cases k6
    · rename_i xs2 n2 p2
      rw [Bool.and_eq_true] at k6
      obtain ⟨j1, j2⟩ := k6
      obtain ⟨vs, _, q1, q2, q3⟩ := chkHs_pe ok j1
      refine wE_of (pe_bl ok k2 boot_isinstance (.inl ⟨_, rfl⟩) k4 rfl (pa_cons pe_wE (pa_cons (pe_tup q1) pa_nil) (plain_star k4))) (ha true X W c k y ok k3 σ S Z H e wd re _ (RSpec.bind (q2 := true) (fun z => ⟨by simpa [qt] using z, rfl⟩) (fun o1 e1 _ v1 Z1 H1 S1 Sv1 p1 h1 => ?_) h))
      obtain ⟨o3, e3, h3⟩ := RSpec.of h1
      obtain ⟨r, e4, e5⟩ := Option.map_eq_some_iff.mp e3
      subst e5
      obtain ⟨a0, D, oe, cn, rfl, g1, g2, g3, g4, rfl, g5, g6⟩ := leaf p1.wd.zh p1.ro e4
      refine ⟨by rw [q2]; have := of_decide_eq_true j2; unfold sizeLine; omega, fun tp hp => ?_⟩
      have n : NP X.K Z1 H1 (.bl (cs.any (excSub cn))) (.fz (.bool (cs.any (excSub cn)))) (upd H1 tp (.tup vs)) (fun _ => False) := ⟨ex_new hp, fun _ z => z.elim, .fz (.bl _)⟩
      have fin := h3 _ Z1 _ S1 _ (n.pr (by simp [pl]) p1.wd p1.re)
      intro σ' pins s us I r
      cases r with
      | cons ra rr =>
        cases rr with
        | cons rb rr =>
          cases rr
          cases ra
          cases rb
          obtain ⟨_, its, rv, o, o1, o2, nn, o3⟩ := (show ObjOk X.prog X.w _ s.heap tp (.tup vs) from I.hok tp _ upd_same)
          have ei := q3 _ rv
          subst ei
          obtain ⟨oc, od, dt, sl⟩ := o
          simp only at o2 o3
          subst o2 o3
          have g1' : upd H1 tp (.tup vs) a0 = some (.ext fun h => h.get? a0 = some oe) := ex_new hp _ _ g1
          exact PySem.W.kia_tup (PySem.W.handS_kitx_exc g5.hg g5.hk g5.hs g5.hd g5.ha g5.hn g5.ht g5.hm) I.kIn (exc_at I g1' g2 g3 g4) o1 (kitAny_any fun h hh => g6 h (chkHs_mem j1 h hh)) (fun z => nomatch z) fun tk => ⟨.bl _, _, I.kept (t' := tk) fun _ _ z => z, rfl, fin⟩
    · cases k6
  · cases hc
theorem strsOf_ok {K : PySem.W.Frag} : ∀ {ds : List PyData} {ss : List Str} {vs : List V}, strsOf ds = some ss → RDs K Z H vs ds → vs = ss.map V.str
  | [], ss, vs, h, r => by
    cases r
    cases (Option.some.inj h)
    rfl
  | .str s :: ds, ss, vs, h, r => by
    have h' : (strsOf ds).map (s :: ·) = some ss := h
    obtain ⟨es, e1, e2⟩ := Option.map_eq_some_iff.mp h'
    subst e2
    cases r with
    | cons r1 r2 =>
      cases r1
      rw [strsOf_ok e1 r2]
      rfl
  | .none :: _, _, _, h, _ => nomatch h
  | .bool _ :: _, _, _, h, _ => nomatch h
  | .int _ :: _, _, _, h, _ => nomatch h
  | .list _ :: _, _, _, h, _ => nomatch h
  | .tuple _ :: _, _, _, h, _ => nomatch h
  | .dict _ :: _, _, _, h, _ => nomatch h
theorem base_plain {o : Expr} {m : Str} {env : PySem.Env} (h : noCall o = true) : attributeBase o m env (eval o env) = eval o env := by
  cases o <;> first | rfl | (simp [noCall] at h)
theorem good_join (ha : GoodE F cl a) (hb : GoodE F cl b) : GoodE F cl (.join a b) := by
  intro w X W c k ast ok hc σ S Z H e wd re Q h
  unfold chk at hc
  split at hc
  · rename_i x m ap y pos
    simp only [Bool.and_eq_true] at hc
    have ex := of_decide_eq_true hc.1.1.1.1.1
    subst ex
    unfold ev at h
    refine wE_of (pe_join pe_wE pe_wE (by rw [plain_star hc.1.1.2]; rfl) (base_plain hc.2) hc.1.2) (ha false X W c k x ok hc.1.1.1.1.2 σ S Z H e wd re _ (RSpec.bind (q2 := qt b) (fun z => by simpa [qt] using z) (fun o1 e1 _ v1 Z1 H1 S1 Sv1 p1 h1 => ?_) h))
    split at h1
    · rename_i s'
      cases (show RO _ _ _ _ _ _ from p1.ro).str
      refine ⟨⟨_, rfl⟩, hb true X W c k y ok hc.1.1.1.2 σ S1 Z1 H1 e1 p1.wd p1.re _ (RSpec.bind (q2 := true) (fun z => ⟨z, rfl⟩) (fun o2 e2 _ v2 Z2 H2 S2 Sv2 p2 h2 => ?_) h1)⟩
      obtain ⟨o3, e3, h3⟩ := RSpec.of h2
      unfold joinO at e3
      split at e3
      · rename_i ds eds
        split at e3
        · rename_i ss ess
          split at e3
          · rename_i cd
            cases e3
            obtain ⟨l, xs, rfl, g1, g2⟩ := listOf_ok eds p2.ro p2.wd.zh
            have g3 := strsOf_ok ess g2
            subst g3
            exact ⟨_, l, ss, rfl, rfl, .inl g1, room_le cd, h3 _ Z2 H2 S2 _ (PR.here p2.wd p2.re (.fz (.str _)))⟩
          · cases e3
        · cases e3
      · cases e3
    · exact h1.elim
  · cases hc

/-! ### arguments -/
inductive ArsOk (K : PySem.W.Frag) (σ : L2.St) (Z H : Hp) (B : AS) : List V → List Ar → AS → Prop
  | nil {T : AS} : ArsOk K σ Z H B [] [] T
  | val {v : V} {vs : List V} {o : O} {as : List Ar} {T1 T2 T : AS} : RO K Z H v o T1 → ArsOk K σ Z H B vs as T2 → (∀ x, T1 x → T x) → (∀ x, T2 x → T x) → (∀ x, T1 x → ¬ T2 x) → ArsOk K σ Z H B (v :: vs) (.val o :: as) T
  | lend {i : Nat} {v : V} {vs : List V} {o : O} {as : List Ar} {T1 T2 T : AS} : σ[i]? = some (some v) → RO K Z H v o T1 → ArsOk K σ Z H B vs as T2 → (∀ x, T1 x → T x) → (∀ x, T2 x → T x) → (∀ x, T1 x → ¬ T2 x) → ArsOk K σ Z H B (v :: vs) (.lend i o :: as) T
  | bor {v : V} {vs : List V} {o : O} {as : List Ar} {T : AS} : RO K Z H v o B → ArsOk K σ Z H B vs as T → ArsOk K σ Z H B (v :: vs) (.bor o :: as) T
theorem ArsOk.length {K : PySem.W.Frag} {vs : List V} {as : List Ar} (h : ArsOk K σ Z H B vs as T) : vs.length = as.length := by
  induction h with
  | nil => rfl
  | val _ _ _ _ _ ih => simp [ih]
  | lend _ _ _ _ _ _ ih => simp [ih]
  | bor _ _ ih => simp [ih]
theorem ArsOk.up {K : PySem.W.Frag} {B' : AS} {vs : List V} {as : List Ar} (h : ArsOk K σ Z H B vs as T) (s : ∀ x, B x → B' x) : ArsOk K σ Z H B' vs as T := by
  induction h with
  | nil => exact .nil
  | val h1 _ b c d ih => exact .val h1 ih b c d
  | lend h0 h1 _ b c d ih => exact .lend h0 h1 ih b c d
  | bor h1 _ ih => exact .bor (h1.up s) ih
theorem ArsOk.upT {K : PySem.W.Frag} {T' : AS} {vs : List V} {as : List Ar} (h : ArsOk K σ Z H B vs as T) (s : ∀ x, T x → T' x) : ArsOk K σ Z H B vs as T' := by
  induction h generalizing T' with
  | nil => exact .nil
  | val h1 h2 b c d ih => exact .val h1 h2 (fun x q => s x (b x q)) (fun x q => s x (c x q)) d
  | lend h0 h1 h2 b c d ih => exact .lend h0 h1 h2 (fun x q => s x (b x q)) (fun x q => s x (c x q)) d
  | bor h1 _ ih => exact .bor h1 (ih s)
theorem ArsOk.plain {K : PySem.W.Frag} {vs : List V} {as : List Ar} (h : ArsOk K σ Z H B vs as T) (q : hasBor as = false) : ArsOk K σ Z H (fun _ => False) vs as T := by
  induction h with
  | nil => exact .nil
  | val h1 _ b c d ih => exact .val h1 (ih (by simpa [hasBor] using q)) b c d
  | lend h0 h1 _ b c d ih => exact .lend h0 h1 (ih (by simpa [hasBor] using q)) b c d
  | bor h1 _ ih =>
    rename_i v0 vs0 o0 as0 T0 _
    have q' : isFz o0 = true ∧ hasBor as0 = false := by simpa [hasBor] using q
    obtain ⟨d, rfl⟩ := isFz_eq q'.1
    exact .bor (.fz h1.rd) (ih q'.2)
/-- as a callee sees them: what is borrowed is frozen there -/
theorem ArsOk.ros {K : PySem.W.Frag} {Zc : Hp} {vs : List V} {as : List Ar} (h : ArsOk K σ Z H B vs as T) (e : Ex Z Zc) (k : ∀ a u, B a → H a = some u → Zc a = some u) : ROs K Zc H vs (as.map Ar.o) T := by
  induction h with
  | nil => exact .nil
  | val h1 _ b c d ih => exact .cons (h1.stay e Tx.refl fun _ _ _ z => z) ih b c d
  | lend h0 h1 _ b c d ih => exact .cons (h1.stay e Tx.refl fun _ _ _ z => z) ih b c d
  | bor h1 _ ih => exact .cons (S1 := fun _ => False) (.fz (h1.frz e k)) ih (fun _ z => z.elim) (fun _ z => z) fun _ z => z.elim
/-- what was lent comes back -/
theorem back_re {K : PySem.W.Frag} {vs : List V} {as : List Ar} {ps : Env} {S' : AS} {e : Env} (h : ArsOk K σ Z H B vs as T) (r : RE K Z1 H1 (vs.map some) ps S') (re : RE K Z1 H1 σ e S) (dj : ∀ x, S' x → ¬ S x) : RE K Z1 H1 σ (backAr as ps e) (Sor S' S) := by
  induction h generalizing ps e S S' with
  | nil =>
    cases r
    exact re.up fun _ => .inr
  | val h1 _ b c d ih =>
    cases r with
    | non r => exact ih r re dj
    | som h2 r b c d => exact (ih r re fun x q => dj x (c x q)).up fun x q => q.elim (fun z => .inl (c x z)) .inr
  | bor h1 _ ih =>
    cases r with
    | non r => exact ih r re dj
    | som h2 r b c d => exact (ih r re fun x q => dj x (c x q)).up fun x q => q.elim (fun z => .inl (c x z)) .inr
  | lend h0 h1 _ b c d ih =>
    cases r with
    | non r => exact ih r (re.drop _) dj
    | som h2 r b c d =>
      have q := ih r (re.put h0 h2 fun x q => dj x (b x q)) fun x q z => z.elim (fun y => d x y q) (dj x (c x q))
      exact q.up fun x z => z.elim (fun y => .inl (c x y)) fun y => y.elim (fun w => .inl (b x w)) .inr
theorem lfE_re {K : PySem.W.Frag} {Z' : Hp} {e : Env} (h : RE K Z H σ e S) (q : lfE e = true) : RE K Z' H σ e S := by
  induction h with
  | nil => exact .nil
  | non _ ih => exact .non (ih (by simpa [lfE] using q))
  | som h1 _ b c d ih =>
    rename_i v0 σ0 o0 e0 _ _ _ _
    have q' : lfO o0 = true ∧ lfE e0 = true := by simpa [lfE] using q
    exact .som (h1.lf q'.1) (ih q'.2) b c d
theorem ArsOk.keep {K : PySem.W.Frag} {vs : List V} {as : List Ar} (h : ArsOk K σ Z H B vs as T) (ez : Ex Z Z1) (t : Tx K H H1) (k : ∀ a u, T a → H a = some u → H1 a = some u) (kb : ∀ a u, B a → H a = some u → H1 a = some u) : ArsOk K σ Z1 H1 B vs as T := by
  induction h with
  | nil => exact .nil
  | val h1 _ b c d ih => exact .val (h1.stay ez t fun a u q => k a u (b a q)) (ih fun a u q => k a u (c a q)) b c d
  | lend h0 h1 _ b c d ih => exact .lend h0 (h1.stay ez t fun a u q => k a u (b a q)) (ih fun a u q => k a u (c a q)) b c d
  | bor h1 _ ih => exact .bor (h1.stay ez t kb) (ih k)
def repA (K : PySem.W.Frag) (σ : L2.St) (n : Nat) : List V → List Ar → Hp → Hp → AS → AS → Prop := fun vs as Z H S Sv => vs.length = n ∧ ∃ B, ArsOk K σ Z H B vs as Sv ∧ ∀ a, B a → S a
def GoodAs (F : Fns) (cl : Str → Value) (as : As) : Prop := ∀ (X : Cx) (W : WX) (c : CT) (k : Nat) (xs : List Expr), XOk c F cl k W X → chkA c as xs = true → ∀ (σ : L2.St) (S : AS) (Z H : Hp) (e : Env), Wd S Z H → RE X.K Z H σ e S →
  SR X W cl (repA X.K σ xs.length) (qtA as) true (wA X xs) σ S Z H (evAs F as e)
theorem good_anil : GoodAs F cl .nil := by
  intro X W c k ast ok hc σ S Z H e wd re Q h
  unfold chkA at hc
  split at hc
  · exact wA_of pa_nil (h _ Z H S _ (PR.here wd re ⟨rfl, fun _ => False, .nil, fun _ z => z.elim⟩))
  · cases hc
/-- two results, one behind the other -/
theorem pr_two {K : PySem.W.Frag} {R1 R2 R' : Hp → Hp → AS → AS → Prop} {q q1 q2 : Bool} (p1 : PR K q1 true σ S Z H e1 R1 Z1 H1 S1 Sv1) (p2 : PR K q2 true σ S1 Z1 H1 e2 R2 Z2 H2 S2 Sv2) (hq : q = true → q1 = true ∧ q2 = true) (h : R' Z2 H2 S2 (Sor Sv1 Sv2)) : PR K q true σ S Z H e2 R' Z2 H2 S2 (Sor Sv1 Sv2) := by
  have kp := kept_of p1 p2
  refine ⟨p2.wd, p1.gr.trans p1.wd p2.gr, p2.re, h, fun _ => ⟨?_, kp.wd.or (p2.apart rfl).2.1, kp.gr⟩, (fun z => nomatch z), fun z => ?_⟩
  · intro a z y
    rcases y with y | y
    · exact (kp.dj a y).1 z
    · exact (p2.apart rfl).1 a z y
  · exact ⟨(p1.quiet (hq z).1).1.trans (p2.quiet (hq z).2).1, (p2.quiet (hq z).2).2.1.trans (p1.quiet (hq z).1).2.1, fun a y => (p2.quiet (hq z).2).2.2 a ((p1.quiet (hq z).1).2.2 a y)⟩
theorem good_aval {r : As} (ha : GoodE F cl a) (hr : GoodAs F cl r) : GoodAs F cl (.cons .val a r) := by
  intro X W c k ast ok hc σ S Z H e wd re Q h
  unfold chkA at hc
  split at hc
  · rename_i x xs
    simp only [Bool.and_eq_true] at hc
    unfold evAs at h
    refine wA_of (pa_cons pe_wE pa_wA (plain_star hc.1.1.2)) (ha false X W c k x ok hc.1.1.1 σ S Z H e wd re _ (RSpec.bindAt wd .refl (fun o1 e1 _ v1 Z1 H1 S1 Sv1 p1 h1 => ?_) h))
    refine hr X W c k xs ok hc.1.2 σ S1 Z1 H1 e1 p1.wd p1.re _ (RSpec.bindAt p1.wd p1.gr (fun o2 e2 _ v2 Z2 H2 S2 Sv2 p2 h2 => ?_) h1)
    have kp := kept_of p1 p2
    obtain ⟨ln, B, ars, hB⟩ := p2.ro
    exact h2 (v1 :: v2) Z2 H2 S2 (Sor Sv1 Sv2) (pr_two p1 p2 (fun z => by simpa [qtA] using z) ⟨by simp [ln], B, .val (fst_kept p1 p2 (.inl rfl)) ars (fun _ => .inl) (fun _ => .inr) fun a z => (kp.dj a z).2, hB⟩)
  · cases hc
theorem good_alend {r : As} {i : Nat} (hr : GoodAs F cl r) : GoodAs F cl (.cons (.lend i) a r) := by
  intro X W c k ast ok hc σ S Z H e wd re Q h
  unfold chkA at hc
  split at hc
  · rename_i x xs
    simp only [Bool.and_eq_true] at hc
    unfold evAs at h
    split at h
    · rename_i o he
      have hj : ∃ j, a = .var j ∧ i = j := by
        cases a with
        | var j => exact ⟨j, rfl, by simpa using hc.2⟩
        | _ => simp at hc
      obtain ⟨j, rfl, rfl⟩ := hj
      obtain ⟨v1, T1, T2, g1, g2, g3, g4, g5, g6⟩ := re.at he
      have hx : ∃ y pos, x = .Name y pos ∧ nmB c i y = true := by
        have hc1 := hc.1.1.1
        unfold chk at hc1
        split at hc1
        · exact ⟨_, _, rfl, hc1⟩
        · cases hc1
      obtain ⟨y, pos, rfl, hy⟩ := hx
      refine wA_of (pa_cons (ok.name hy) pa_wA (plain_star hc.1.1.2)) ⟨v1, g1, ?_⟩
      have p1 : PR X.K false true σ S Z H (e.set i none) (repO X.K v1 o) Z H T2 T1 := ⟨wd.sub g4, Gr.refl.subR g4, g6, g2, fun _ => ⟨fun a z y => g5 a y z, wd.sub g3, Gr.refl.subR fun a z => z.elim (g4 a) (g3 a)⟩, (fun z => nomatch z), fun z => nomatch z⟩
      refine hr X W c k xs ok hc.1.2 σ T2 Z H _ p1.wd p1.re _ (RSpec.bindAt p1.wd p1.gr (fun o2 e2 _ v2 Z2 H2 S2 Sv2 p2 h2 => ?_) h)
      have kp := kept_of p1 p2
      obtain ⟨ln, B, ars, hB⟩ := p2.ro
      exact h2 (v1 :: v2) Z2 H2 S2 (Sor T1 Sv2) (pr_two p1 p2 (fun z => by simp [qtA] at z) ⟨by simp [ln], B, .lend g1 (fst_kept p1 p2 (.inl rfl)) ars (fun _ => .inl) (fun _ => .inr) fun a z => (kp.dj a z).2, hB⟩)
    · exact h.elim
  · cases hc
theorem good_abor {r : As} (ha : GoodE F cl a) (hr : GoodAs F cl r) : GoodAs F cl (.cons .bor a r) := by
  intro X W c k ast ok hc σ S Z H e wd re Q h
  unfold chkA at hc
  split at hc
  · rename_i x xs
    simp only [Bool.and_eq_true] at hc
    unfold evAs at h
    split at h
    · rename_i hp
      refine wA_of (pa_cons pe_wE pa_wA (plain_star hc.1.1.2)) (ha true X W c k x ok hc.1.1.1 σ S Z H e wd re _ (RSpec.bindAt wd .refl (fun o1 e1 _ v1 Z1 H1 S1 Sv1 p1 h1 => ?_) h))
      refine hr X W c k xs ok hc.1.2 σ S1 Z1 H1 e1 p1.wd p1.re _ (RSpec.bindAt p1.wd p1.gr (fun o2 e2 _ v2 Z2 H2 S2 Sv2 p2 h2 => ?_) h1)
      obtain ⟨ln, B, ars, hB⟩ := p2.ro
      split at h2
      · rename_i cd
        have r1 := fst_kept p1 p2 (.inr (by simpa using cd))
        have p12 : PR X.K (qtA (.cons .bor a r)) true σ S Z H e2 (fun Z H S Sv => (v2.length = xs.length ∧ ∃ B, ArsOk X.K σ Z H B v2 o2 Sv ∧ ∀ a, B a → S a)) Z2 H2 S2 Sv2 := p2.shift p1.wd p1.gr fun z => by
          have z' : qt a = true ∧ qtA r = true := by simpa [qtA] using z
          exact ⟨z'.2, p1.quiet z'.1⟩
        refine h2 (v1 :: v2) Z2 H2 S2 Sv2 (p12.imp fun _ => ⟨by simp [ln], ?_⟩)
        cases hz : isFz o1 with
        | true =>
          obtain ⟨d, rfl⟩ := isFz_eq hz
          exact ⟨B, .bor (.fz r1.rd) ars, hB⟩
        | false =>
          rw [hz, Bool.false_or] at cd
          exact ⟨Sor Sv1 B, .bor (r1.up fun _ => .inl) (ars.up fun _ => .inr), fun a z => z.elim (fun y => (p2.quiet cd).2.2 a (p1.sub (by rw [hp]; rfl) a y)) (hB a)⟩
      · exact h2.elim
    · exact h.elim
  · cases hc
theorem good_aborA {r : As} {i : Nat} (hr : GoodAs F cl r) : GoodAs F cl (.cons (.borA i) a r) := by
  intro X W c k ast ok hc σ S Z H e wd re Q h
  unfold chkA at hc
  split at hc
  · rename_i x xs
    simp only [Bool.and_eq_true] at hc
    unfold evAs at h
    split at h
    · rename_i o he
      have hj : ∃ j, a = .var j ∧ i = j := by
        cases a with
        | var j => exact ⟨j, rfl, by simpa using hc.2⟩
        | _ => simp at hc
      obtain ⟨j, rfl, rfl⟩ := hj
      obtain ⟨v1, T1, T2, g1, g2, g3, g4, g5, g6⟩ := re.at he
      have hx : ∃ y pos, x = .Name y pos ∧ nmB c i y = true := by
        have hc1 := hc.1.1.1
        unfold chk at hc1
        split at hc1
        · exact ⟨_, _, rfl, hc1⟩
        · cases hc1
      obtain ⟨y, pos, rfl, hy⟩ := hx
      refine wA_of (pa_cons (ok.name hy) pa_wA (plain_star hc.1.1.2)) ⟨v1, g1, ?_⟩
      refine hr X W c k xs ok hc.1.2 σ S Z H e wd re _ (RSpec.bindAt wd .refl (fun o2 e2 _ v2 Z2 H2 S2 Sv2 p2 h2 => ?_) h)
      split at h2
      · rename_i ox he1
        obtain ⟨ln, B, ars, hB⟩ := p2.ro
        obtain ⟨A, r1, r2⟩ := slot_kept p2 g1 he1
        exact h2 (v1 :: v2) Z2 H2 S2 Sv2 ⟨p2.wd, p2.gr, p2.re, ⟨by simp [ln], Sor A B, .bor (r1.up fun _ => .inl) (ars.up fun _ => .inr), fun a z => z.elim (r2 a) (hB a)⟩, p2.apart, p2.sub, fun z => by simp [qtA] at z⟩
      · exact h2.elim
    · exact h.elim
  · cases hc
theorem chkA_plains : ∀ {as : As} {xs : List Expr}, chkA c as xs = true → plainsB xs = true
  | .nil, xs, h => by
    unfold chkA at h
    split at h
    · rfl
    · cases h
  | .cons m a r, xs, h => by
    unfold chkA at h
    split at h
    · simp only [Bool.and_eq_true] at h
      have ih := chkA_plains h.1.2
      unfold plainsB at ih ⊢
      rw [List.all_cons, h.1.1.2, ih]
      rfl
    · cases h
/-- behind a callee: its world put into the caller's -/
theorem after_call {K : PySem.W.Frag} {as : List Ar} {vs : List V} {ps : Env} {Zc Z' Z'' H' : Hp} {S' Sv' : AS} (ars : ArsOk K σ Z1 H1 B vs as Sv1) (hB : ∀ a, B a → S1 a) (w1 : Wd S1 Z1 H1) (wv : Wd Sv1 Z1 H1) (a1 : ∀ a, S1 a → ¬ Sv1 a) (re : RE K Z1 H1 σ e S1)
    (eZ : Ex Z1 Zc) (hZ : ∀ a, Zc a ≠ none → Z1 a ≠ none ∨ (B a ∧ H1 a = Zc a)) (wd' : Wd (Sor S' Sv') Z' H') (gr' : Gr Sv1 Zc H1 (Sor S' Sv') Z' H') (re' : RE K Z'' H' (vs.map some) ps S')
    (e1 : Ex Z1 Z'') (e2 : Ex Z'' Z') (zn : ∀ a, Z'' a ≠ none → Z1 a ≠ none ∨ (Zc = Z1 ∧ Z' a ≠ none)) (wc : Wd Sv1 Zc H1) :
    (∀ a, S1 a → ¬ Sor S' Sv' a) ∧ Wd (Sor (Sor S' S1) Sv') Z'' H' ∧ Gr (Sor S1 Sv1) Z1 H1 (Sor (Sor S' S1) Sv') Z'' H' ∧ RE K Z'' H' σ (backAr as ps e) (Sor S' S1) := by
  have dj : ∀ a, S1 a → ¬ Sor S' Sv' a := fun a z y => by
    rcases gr'.new a (.inl y) with q | q | q
    · exact a1 a z q
    · exact not_own_none w1 z q
    · rcases hZ a q with q | ⟨q, q2⟩
      · exact q (w1.own a z).1
      · cases r : Zc a with
        | none => exact absurd r ‹Zc a ≠ none›
        | some u =>
          have := gr'.z a u r
          rw [(wd'.own a y).1] at this
          cases this
  have kp : ∀ a u, S1 a → H1 a = some u → H' a = some u := fun a u y z => gr'.keep a u z (a1 a y)
  have z1 : ∀ a, S1 a → Z'' a = none := fun a y => by
    cases r : Z'' a with
    | none => rfl
    | some u =>
      rcases zn a (by rw [r]; simp) with q | ⟨q, q2⟩
      · exact absurd (w1.own a y).1 q
      · rcases gr'.new a (.inr q2) with q3 | q3 | q3
        · exact (a1 a y q3).elim
        · exact (not_own_none w1 y q3).elim
        · rw [q] at q3
          exact absurd (w1.own a y).1 q3
  have z2 : ∀ a, Sor S' Sv' a → Z'' a = none := fun a y => by
    cases r : Z'' a with
    | none => rfl
    | some u =>
      have := e2 a u r
      rw [(wd'.own a y).1] at this
      cases this
  have zh : Ex Z'' H' := e2.trans wd'.zh
  refine ⟨dj, ⟨zh, fun a y => ?_⟩, ⟨e1, fun a o y n => gr'.keep a o y fun z => n (.inr z), fun a y => ?_⟩, ?_⟩
  · rcases y with (y | y) | y
    · exact ⟨z2 a (.inl y), (wd'.own a (.inl y)).2⟩
    · refine ⟨z1 a y, ?_⟩
      have m := (w1.own a y).2
      cases r : H1 a with
      | none => rw [r] at m; exact m.elim
      | some o => rw [kp a o y r]; rw [r] at m; exact m
    · exact ⟨z2 a (.inr y), (wd'.own a (.inr y)).2⟩
  · have nw : ∀ a, Sor S' Sv' a → Sor S1 Sv1 a ∨ H1 a = none ∨ Z1 a ≠ none := fun a y => by
      rcases gr'.new a (.inl y) with q | q | q
      · exact .inl (.inr q)
      · exact .inr (.inl q)
      · rcases hZ a q with q | ⟨q, _⟩
        · exact .inr (.inr q)
        · exact .inl (.inl (hB a q))
    rcases y with ((y | y) | y) | y
    · exact nw a (.inl y)
    · exact .inl (.inl y)
    · exact nw a (.inr y)
    · rcases zn a y with q | ⟨q, q2⟩
      · exact .inr (.inr q)
      · rcases gr'.new a (.inr q2) with q3 | q3 | q3
        · exact .inl (.inr q3)
        · exact .inr (.inl q3)
        · rw [q] at q3
          exact .inr (.inr q3)
  · have tx : Tx K H1 H' := gr'.tx wc
    exact back_re ars re' (re.stay e1 tx kp) fun x y z => dj x z (.inl y)
theorem back_lent : ∀ (as : List Ar) (ps e : Env), backAr as (lentE as ps) e = backAr as ps e
  | [], ps, e => by cases ps <;> rfl
  | .lend i o :: r, [], e => rfl
  | .lend i o :: r, p :: ps, e => back_lent r ps _
  | .val o :: r, [], e => rfl
  | .val o :: r, p :: ps, e => back_lent r ps _
  | .bor o :: r, [], e => rfl
  | .bor o :: r, p :: ps, e => back_lent r ps _
theorem RE.blank {K : PySem.W.Frag} {σ : L2.St} {e : Env} (h : RE K Z H σ e S) : RE K Z H σ (e.map fun _ => none) S := by
  induction h with
  | nil => exact .nil
  | non _ ih => exact .non ih
  | som _ _ _ c _ ih => exact .non (ih.up c)
theorem RE.lent {K : PySem.W.Frag} : ∀ (as : List Ar) {σ : L2.St} {ps : Env} {S : AS}, RE K Z H σ ps S → RE K Z H σ (lentE as ps) S
  | [], _, _, _, h => h.blank
  | .lend i o :: r, _, _, _, .nil => .nil
  | .lend i o :: r, _, _, _, .non h => .non (RE.lent r h)
  | .lend i o :: r, _, _, _, .som h1 h2 b c d => .som h1 (RE.lent r h2) b c d
  | .val o :: r, _, _, _, .nil => .nil
  | .val o :: r, _, _, _, .non h => .non (RE.lent r h)
  | .val o :: r, _, _, _, .som h1 h2 b c d => .non ((RE.lent r h2).up c)
  | .bor o :: r, _, _, _, .nil => .nil
  | .bor o :: r, _, _, _, .non h => .non (RE.lent r h)
  | .bor o :: r, _, _, _, .som h1 h2 b c d => .non ((RE.lent r h2).up c)
/-- a call, told of its arguments' state -/
theorem call_spec {o : O} {as : List Ar} {vs : List V} {f : Str} {n : Nat} {t : Bool} {Q : VK} (ht : t = true) (hn : vs.length = n) (hB : ∃ B, ArsOk X.K σ Z1 H1 B vs as Sv1 ∧ ∀ a, B a → S1 a)
    (p1 : PR X.K q1 true σ S Z H e1 R1 Z1 H1 S1 Sv1) (h : RSpec X W cl (repO X.K) false t σ S Z H (match F f (as.map Ar.o) with
    | .ok o ps => if !hasBor as || (lfO o && lfE (lentE as ps)) then .ok o (backAr as ps e1) else .no
    | .ex c ps => if !hasBor as || lfE (lentE as ps) then .ex c (backAr as ps e1) else .no
    | .no => .no) Q) : spF X.K cl F f n vs H1 Q (WE W σ) := by
  subst ht
  refine ⟨hn, ?_⟩
  obtain ⟨B0, ars0, hB0⟩ := hB
  obtain ⟨a1, a2, a3⟩ := p1.apart rfl
  -- the frozen for the callee
  obtain ⟨B, ars, hB, Zc, eZ, kZ, hZ⟩ : ∃ B, ArsOk X.K σ Z1 H1 B vs as Sv1 ∧ (∀ a, B a → S1 a) ∧ ∃ Zc, Ex Z1 Zc ∧ (∀ a u, B a → H1 a = some u → Zc a = some u) ∧ (∀ a, Zc a ≠ none → Z1 a ≠ none ∨ (B a ∧ H1 a = Zc a)) ∧ (hasBor as = false → Zc = Z1) ∧ Ex Zc H1 := by
    cases hb : hasBor as with
    | false => exact ⟨fun _ => False, ars0.plain hb, fun _ z => z.elim, Z1, Ex.refl _, fun _ _ z => z.elim, fun a z => .inl z, fun _ => rfl, a2.zh⟩
    | true =>
      have wB : Wd B0 Z1 H1 := p1.wd.sub hB0
      refine ⟨B0, ars0, hB0, frzZ Z1 H1 B0, frzZ_ex wB, fun a u z y => by rw [frzZ_in z]; exact y, fun a z => ?_, (fun z => nomatch z), fun a o z => ?_⟩
      · by_cases q : B0 a
        · exact .inr ⟨q, (frzZ_in q).symm⟩
        · rw [frzZ_out q] at z
          exact .inl z
      · by_cases q : B0 a
        · rw [frzZ_in q] at z
          exact z
        · rw [frzZ_out q] at z
          exact p1.wd.zh a o z
  have wc : Wd Sv1 Zc H1 := by
    refine ⟨hZ.2.2, fun a y => ⟨?_, (a2.own a y).2⟩⟩
    cases r : Zc a with
    | none => rfl
    | some u =>
      rcases hZ.1 a (by rw [r]; simp) with q | ⟨q, _⟩
      · exact absurd (a2.own a y).1 q
      · exact (a1 a (hB a q) y).elim
  refine ⟨Sv1, Zc, as.map Ar.o, wc, ars.ros eZ kZ, ?_⟩
  cases hF : F f (as.map Ar.o) with
  | no => rw [hF] at h; exact h
  | ok o ps =>
    rw [hF] at h
    intro v Z' H' S' Sv' pc
    obtain ⟨b1, b2, b3⟩ := pc.apart rfl
    have ro : RO X.K Z' H' v o Sv' := pc.ro
    have fin : ∀ (ps : Env) Z'', Ex Z1 Z'' → Ex Z'' Z' → (∀ a, Z'' a ≠ none → Z1 a ≠ none ∨ (Zc = Z1 ∧ Z' a ≠ none)) → RE X.K Z'' H' (vs.map some) ps S' → RO X.K Z'' H' v o Sv' → PR X.K false true σ S Z H (backAr as ps e1) (repO X.K v o) Z'' H' (Sor S' S1) Sv' := fun ps Z'' e1 e2 zn re' ro' => by
      obtain ⟨c1, c2, c3, c4⟩ := after_call ars hB p1.wd a2 a1 p1.re eZ hZ.1 (pc.wd.or b2) b3 re' e1 e2 zn wc
      have g := a3.trans (p1.wd.or a2) c3
      exact ⟨c2.sub fun _ => .inl, g.subR fun _ => .inl, c4, ro', fun _ => ⟨fun a y z => y.elim (fun w => b1 a w z) fun w => c1 a w (.inr z), c2.sub fun _ => .inr, g⟩, (fun z => nomatch z), fun z => nomatch z⟩
    cases hb : hasBor as with
    | false =>
      have ez := hZ.2.1 hb
      rw [hb] at h
      exact h v Z' H' _ Sv' (fin ps Z' (eZ.trans pc.gr.z) (Ex.refl _) (fun a y => .inr ⟨ez, y⟩) pc.re ro)
    | true =>
      rw [hb] at h
      simp only [Bool.not_true, Bool.false_or] at h
      split at h
      · rename_i cd
        have cd' := Bool.and_eq_true_iff.mp cd
        rw [← back_lent as ps e1] at h
        exact h v Z1 H' _ Sv' (fin (lentE as ps) Z1 (Ex.refl _) (eZ.trans pc.gr.z) (fun a y => .inl y) (lfE_re (RE.lent as pc.re) cd'.2) (ro.lf cd'.1))
      · exact h.elim
  | ex c' ps =>
    rw [hF] at h
    intro Z' H' S' pc
    have fin : ∀ (ps : Env) Z'', Ex Z1 Z'' → Ex Z'' Z' → (∀ a, Z'' a ≠ none → Z1 a ≠ none ∨ (Zc = Z1 ∧ Z' a ≠ none)) → RE X.K Z'' H' (vs.map some) ps S' → PX X.K σ S Z H (backAr as ps e1) Z'' H' (Sor S' S1) := fun ps Z'' e1 e2 zn re' => by
      obtain ⟨c1, c2, c3, c4⟩ := after_call (Sv' := fun _ => False) ars hB p1.wd a2 a1 p1.re eZ hZ.1 (pc.wd.sub fun x y => y.elim (fun z => z) fun z => z.elim) (pc.gr.subR fun x y => y.elim (fun z => z) fun z => z.elim) re' e1 e2 zn wc
      have g := a3.trans (p1.wd.or a2) c3
      exact ⟨c2.sub fun _ => .inl, g.subR fun _ => .inl, c4⟩
    cases hb : hasBor as with
    | false =>
      have ez := hZ.2.1 hb
      rw [hb] at h
      exact h Z' H' _ (fin ps Z' (eZ.trans pc.gr.z) (Ex.refl _) (fun a y => .inr ⟨ez, y⟩) pc.re)
    | true =>
      rw [hb] at h
      simp only [Bool.not_true, Bool.false_or] at h
      split at h
      · rename_i cd
        rw [← back_lent as ps e1] at h
        exact h Z1 H' _ (fin (lentE as ps) Z1 (Ex.refl _) (eZ.trans pc.gr.z) (fun a y => .inl y) (lfE_re (RE.lent as pc.re) cd))
      · exact h.elim
theorem good_call {f : Str} {as : As} (ha : GoodAs F cl as) : GoodE F cl (.call f as) := by
  intro w X W c k ast ok hc σ S Z H e wd re Q h
  unfold chk at hc
  split at hc
  · rename_i x p y ys pos
    simp only [Bool.and_eq_true] at hc
    have ex := of_decide_eq_true hc.1.1.1
    subst ex
    obtain ⟨g1, g2⟩ := ok.gl hc.1.1.2
    have pls := chkA_plains hc.2
    have pls' : plainB y = true ∧ plainsB ys = true := by simpa [plainsB] using pls
    obtain ⟨fa, fd, ps, hm, hk, hb, hps, ok'⟩ := ok.fs _ _ (of_decide_eq_true hc.1.2)
    unfold ev at h
    refine wE_of (pe_callA ok' g1 hm hk hb (fun σ => passAt ok.tk σ) pa_wA g2 (plain_star pls'.1) (nostars pls'.2)) (ha X W c k _ ok hc.2 σ S Z H e wd re _ (RSpec.bindAt wd .refl (fun o1 e1 _ v1 Z1 H1 S1 Sv1 p1 h1 => ?_) h))
    exact call_spec (o := .fz .none) (by simp [pl]) p1.ro.1 p1.ro.2 p1 h1
  · cases hc
end
end Rim
namespace Rim
open PySem PySem.Spec PyProof.Rows L2

/-! ### walks -/
/-- J goes through ds, what is in Z kept -/
def JOk (K : PySem.W.Frag) (J : L2.It) (ds : List PyData) (Z H1 : Hp) : Prop := ∀ (Z' H : Hp) (i : Nat), Ex Z Z' → Ex Z' H → Tx K H1 H →
  (ds.length ≤ i → J.stop i H) ∧ ∀ d, ds[i]? = some d → J.go i H ∧ ∀ x H', J.yld i H x H' → Ex H H' ∧ (∀ a, H' a ≠ none → H a ≠ none ∨ ¬ Mut (H' a)) ∧ RD K Z' H' x d
def repJ (K : PySem.W.Frag) : L2.It → List PyData → Hp → Hp → AS → AS → Prop := fun J ds Z H _ _ => JOk K J ds Z H
def wI (X : Cx) (tg iter : Expr) : TI := fun σ H R => ∀ pins s, Inv X pins σ H s → wpAny (model X.prog X.w) X.A (eval iter X.env) (fun v s1 => wpAny (model X.prog X.w) X.A (pyIter v) (PIE X pins σ tg R) X.xe s1) X.xe s
theorem pi_wI {X : Cx} {tg iter : Expr} : PI X tg iter (wI X tg iter) := ⟨fun pins s σ H R I h => h pins s I⟩
theorem wI_of {X : Cx} {tg iter : Expr} {t : TI} (h : PI X tg iter t) {σ : L2.St} {H : Hp} {R : L2.It → Hp → Prop} (q : t σ H R) : wI X tg iter σ H R := fun pins s I => h.run pins s σ H R I q
section
variable {K : PySem.W.Frag} {Z H : Hp} {a : Addr} {xs : List V} {ds : List PyData}
theorem get_len {α β : Type} {xs : List α} {ys : List β} (h : xs.length = ys.length) {i : Nat} {y : β} (q : ys[i]? = some y) : ∃ x, xs[i]? = some x := by
  have hl : i < ys.length := by
    rcases Nat.lt_or_ge i ys.length with z | z
    · exact z
    · rw [List.getElem?_eq_none z] at q; cases q
  exact ⟨xs[i]'(by omega), List.getElem?_eq_getElem (by omega)⟩
theorem jok_list (h : SqL K Z a xs) (r : RDs K Z H xs ds) : JOk K (Itl K a) ds Z H := by
  intro Z' H' i e e' t
  have q : SqL K H' a xs := sqL_ex (e.trans e') h
  have r' := RDs.mono e t r
  refine ⟨fun z => ⟨xs, q, by rw [r.length]; exact z⟩, fun d hd => ?_⟩
  obtain ⟨x, g1, g2⟩ := r'.get hd
  refine ⟨⟨xs, x, q, g1⟩, fun y H2 ⟨e1, e2⟩ => ?_⟩
  subst e1
  have e3 := e2 xs q
  rw [g1] at e3
  cases e3
  exact ⟨Ex.refl _, fun a z => .inl z, g2⟩
theorem jok_keys {od : Obj} {kvs : List (Key × V)} {es : List (PyData × PyData)} (h : Z a = some (.frz od (.dK kvs))) (r : RDk K Z H kvs es) : JOk K (Itk a od kvs) (es.map (·.1)) Z H := by
  intro Z' H' i e e' t
  have q : H' a = some (.frz od (.dK kvs)) := e' _ _ (e _ _ h)
  have r' := r.firsts
  have ln : kvs.length = es.length := by
    have := r'.length
    rwa [List.length_map, List.length_map] at this
  refine ⟨fun z => ⟨q, by rw [List.length_map] at z; omega⟩, fun d hd => ?_⟩
  obtain ⟨x, g1, g2⟩ := (RDs.mono e t r').get hd
  rw [List.getElem?_map] at g1
  obtain ⟨kv, g3, rfl⟩ := Option.map_eq_some_iff.mp g1
  refine ⟨⟨q, ?_⟩, fun y H2 ⟨e1, k, v, e2, e3⟩ => ?_⟩
  · rcases Nat.lt_or_ge i kvs.length with z | z
    · exact z
    · rw [List.getElem?_eq_none z] at g3
      cases g3
  · subst e1 e3
    rw [g3] at e2
    cases e2
    exact ⟨Ex.refl _, fun a z => .inl z, g2⟩
theorem jok_tup (h : TpX H a xs) (r : RDs K Z H xs ds) : JOk K (Itt K a) ds Z H := by
  intro Z' H' i e e' t
  have q : SqT K H' a xs := (t _ _ h : TpX H' a xs).sq
  have r' := RDs.mono e t r
  refine ⟨fun z => ⟨xs, q, by rw [r.length]; exact z⟩, fun d hd => ?_⟩
  obtain ⟨x, g1, g2⟩ := r'.get hd
  refine ⟨⟨xs, x, q, g1⟩, fun y H2 ⟨e1, e2⟩ => ?_⟩
  subst e1
  have e3 := e2 xs q
  rw [g1] at e3
  cases e3
  exact ⟨Ex.refl _, fun a z => .inl z, g2⟩
theorem jok_str {s : Str} : JOk K (Its s) (s.cps.toList.map fun c => .str ⟨#[c]⟩) Z H := by
  intro Z' H' i e e' t
  refine ⟨fun z => by show s.cps.size ≤ i; simpa using z, fun d hd => ?_⟩
  rw [List.getElem?_map] at hd
  obtain ⟨c, hc, e1⟩ := Option.map_eq_some_iff.mp hd
  have hc' : s.cps[i]? = some c := by simpa using hc
  have hi : i < s.cps.size := by
    rcases Nat.lt_or_ge i s.cps.size with z | z
    · exact z
    · rw [Array.getElem?_eq_none z] at hc'
      cases hc'
  refine ⟨hi, fun y H2 ⟨e3, c2, e4, e5⟩ => ?_⟩
  subst e3 e5 e1
  rw [hc'] at e4
  cases e4
  exact ⟨Ex.refl _, fun a z => .inl z, .str _⟩
theorem jok_rng {lo : Int} {n : Nat} : JOk K (Itr lo n) (rngD lo n) Z H := by
  intro Z' H' i e e' t
  refine ⟨fun z => by show n ≤ i; simpa [rngD] using z, fun d hd => ?_⟩
  unfold rngD at hd
  rw [List.getElem?_map] at hd
  obtain ⟨c, hc, e1⟩ := Option.map_eq_some_iff.mp hd
  have hi : i < n := by
    rcases Nat.lt_or_ge i n with z | z
    · exact z
    · rw [List.getElem?_eq_none (by simpa using z)] at hc; cases hc
  rw [List.getElem?_range hi] at hc
  cases hc
  refine ⟨hi, fun y H2 ⟨e3, e4⟩ => ?_⟩
  subst e3 e4 e1
  exact ⟨Ex.refl _, fun a z => .inl z, .int _⟩
theorem pair_new {H' : Hp} {T : Addr} {x y : V} (h : H T = none) (e : H' = upd H T (.tup [x, y])) : Ex H H' ∧ (∀ a, H' a ≠ none → H a ≠ none ∨ ¬ Mut (H' a)) ∧ TpX H' T [x, y] := by
  subst e
  refine ⟨ex_new h, fun a z => ?_, (upd_same : _)⟩
  by_cases q : a = T
  · subst q
    rw [upd_same]
    exact .inr fun z => z
  · rw [upd_ne q] at z
    exact .inl z
theorem jok_enum (h : SqL K Z a xs) (r : RDs K Z H xs ds) : JOk K (Ite K a) (ds.zipIdx.map fun p => .tuple [.int p.2, p.1]) Z H := by
  intro Z' H' i e e' t
  have q : SqL K H' a xs := sqL_ex (e.trans e') h
  have r' := RDs.mono e t r
  refine ⟨fun z => ⟨xs, q, by rw [r.length]; simpa using z⟩, fun d hd => ?_⟩
  rw [List.getElem?_map, List.getElem?_zipIdx] at hd
  obtain ⟨p, e1, e2⟩ := Option.map_eq_some_iff.mp hd
  obtain ⟨d', e3, e4⟩ := Option.map_eq_some_iff.mp e1
  subst e4 e2
  obtain ⟨x, g1, g2⟩ := r'.get e3
  refine ⟨⟨xs, x, q, g1⟩, fun y H2 ⟨T, x2, y1, y2, y3, y4⟩ => ?_⟩
  have e5 := y4 xs q
  rw [g1] at e5
  cases e5
  obtain ⟨n1, n2, n3⟩ := pair_new y2 y3
  subst y1
  refine ⟨n1, n2, .tup n3 (.cons ?_ (.cons (g2.mono (Ex.refl _) n1.tx) .nil))⟩
  have e6 : (((0 + i : Nat) : Int)) = (i : Int) := by simp
  show RD K Z' H2 (.int (i : Nat)) (.int ((0 + i : Nat) : Int))
  rw [e6]
  exact .int _
theorem jok_zip {b : Addr} {ys : List V} {es : List PyData} (h : SqL K Z a xs) (r : RDs K Z H xs ds) (h2 : SqL K Z b ys) (r2 : RDs K Z H ys es) : JOk K (Itz K a b) ((ds.zip es).map fun p => .tuple [p.1, p.2]) Z H := by
  intro Z' H' i e e' t
  have q : SqL K H' a xs := sqL_ex (e.trans e') h
  have q2 : SqL K H' b ys := sqL_ex (e.trans e') h2
  have r' := RDs.mono e t r
  have r2' := RDs.mono e t r2
  refine ⟨fun z => ⟨xs, ys, q, q2, by rw [r.length, r2.length]; simp at z; omega⟩, fun d hd => ?_⟩
  rw [List.getElem?_map] at hd
  obtain ⟨p, e1, e2⟩ := Option.map_eq_some_iff.mp hd
  rw [List.getElem?_zip_eq_some] at e1
  subst e2
  obtain ⟨x, g1, g2⟩ := r'.get e1.1
  obtain ⟨x', g3, g4⟩ := r2'.get e1.2
  refine ⟨⟨xs, ys, x, x', q, q2, g1, g3⟩, fun y H2 ⟨T, u1, u2, y1, y2, y3, y4, y5⟩ => ?_⟩
  have e5 := y4 xs q
  rw [g1] at e5
  cases e5
  have e6 := y5 ys q2
  rw [g3] at e6
  cases e6
  obtain ⟨n1, n2, n3⟩ := pair_new y2 y3
  subst y1
  exact ⟨n1, n2, .tup n3 (.cons (g2.mono (Ex.refl _) n1.tx) (.cons (g4.mono (Ex.refl _) n1.tx) .nil))⟩
end
/-- over a list, a tuple, a text -/
def iSeq (K : PySem.W.Frag) (tl : TE) : TI := fun σ H R => tl σ H fun x H1 => (∃ a xs, x = .ref a ∧ SqL K H1 a xs ∧ R (Itl K a) H1) ∨ (∃ a xs, x = .ref a ∧ SqT K H1 a xs ∧ R (Itt K a) H1) ∨ (∃ s, x = .str s ∧ R (Its s) H1) ∨ ∃ d o kvs, x = .ref d ∧ H1 d = some (.frz o (.dK kvs)) ∧ R (Itk d o kvs) H1
theorem pi_seq {X : Cx} {tg l : Expr} {tl : TE} (hl : PE X l tl) : PI X tg l (iSeq X.K tl) := by
  refine ⟨fun pins s σ H R I h => thn (hl.run pins s σ H _ I h) fun v s1 ⟨x, H1, I1, r1, q1⟩ => ?_⟩
  rcases q1 with ⟨a, xs, e, hq, q⟩ | ⟨a, xs, e, hq, q⟩ | ⟨z, e, q⟩ | ⟨d, o, kvs, e, hd, q⟩
  · subst e
    cases r1
    obtain ⟨_, _, p, _⟩ := I1.list hq
    exact wpAny_pyIter_list p.isList (pi_one (tk := s1.toks) I1 _ (turn_list a _) ⟨_, Heap.get?_push_size _ rfl, rfl, rfl⟩ q)
  · subst e
    cases r1
    obtain ⟨_, _, p, _⟩ := I1.tuple hq
    exact wpAny_pyIter_tuple p (pi_one (tk := s1.toks) I1 _ (turn_tuple a _) ⟨_, Heap.get?_push_size _ rfl, rfl, rfl⟩ q)
  · subst e
    obtain ⟨t, rfl⟩ := r1
    cases hw : z.cps.all (· < 128) with
    | false => exact wpAny_pyIter_wide hw (pi_one (tk := s1.toks) I1 _ (turn_str _ z t "str_iterator" (.inr rfl)) ⟨_, Heap.get?_push_size _ rfl, rfl, rfl⟩ q)
    | true => exact wpAny_pyIter_ascii hw (pi_one (tk := s1.toks) I1 _ (turn_str _ z t "str_ascii_iterator" (.inl rfl)) ⟨_, Heap.get?_push_size _ rfl, rfl, rfl⟩ q)
  · subst e
    obtain rfl : v = Value.ref d := r1
    obtain ⟨hs, hgd, hx, es, ep, vs, hdt, hsz, kv, hm⟩ := I1.frzK hd
    refine iter_keys hs hgd hx hdt (pi_one (tk := s1.toks) I1 _ (turn_keys _ hdt) ⟨_, Heap.get?_push_size _ rfl, rfl, ?_⟩ q)
    rw [hsz] <;> rfl

section
variable {c : CT} {F : Fns} {cl : Str → Value} {k : Nat} {W : WX} {X : Cx} {σ : L2.St} {S S1 S2 Sv Sv1 Sv2 T B : AS} {Z H Z1 H1 Z2 H2 : Hp} {e e1 e2 : Env} {a b : E} {x : Str}
def GoodI (F : Fns) (cl : Str → Value) (it : It) : Prop := ∀ (X : Cx) (W : WX) (c : CT) (k : Nat) (tg ast : Expr), XOk c F cl k W X → chkI c it ast = true → (itPair it = true → ∃ es n p, tg = .Tuple es n p) → ∀ (σ : L2.St) (S : AS) (Z H : Hp) (e : Env), Wd S Z H → RE X.K Z H σ e S →
  SR X W cl (repJ X.K) false true (wI X tg ast) σ S Z H (evIt F it e)
/-- a value's tree frozen: its data -/
theorem PR.frozen {K : PySem.W.Frag} {q : Bool} {v : V} {o : O} (p : PR K q true σ S Z H e (repO K v o) Z1 H1 S1 Sv) : ∃ Z', PR K false true σ S Z H e (repO K v (.fz (er o))) Z' H1 S1 (fun _ => False) ∧ Ex Z1 Z' := by
  obtain ⟨_, a2, _⟩ := p.apart rfl
  exact ⟨_, PR.freeze rfl p, frzZ_ex a2⟩
theorem good_seq (ha : GoodE F cl a) : GoodI F cl (.seq a) := by
  intro X W c k tg ast ok hc _ σ S Z H e wd re Q h
  unfold chkI at hc
  simp only [Bool.and_eq_true] at hc
  unfold evIt at h
  refine wI_of (pi_seq pe_wE) (ha false X W c k ast ok hc.1 σ S Z H e wd re _ (RSpec.bindAt wd .refl (fun o1 e1 _ v1 Z1 H1 S1 Sv1 p1 h1 => ?_) h))
  obtain ⟨Z', p2, _⟩ := PR.frozen (show PR X.K (qt a) true σ S Z H e1 (repO X.K v1 o1) Z1 H1 S1 Sv1 from p1)
  have rd := (show RO _ _ _ _ _ _ from p2.ro).rd
  split at h1
  · rename_i ds eo
    rw [eo] at rd
    cases rd with
    | lst g1 g2 => exact .inl ⟨_, _, rfl, sqL_ex p2.wd.zh g1, h1 _ Z' H1 S1 _ (p2.flat (jok_list g1 g2))⟩
  · rename_i ds eo
    rw [eo] at rd
    cases rd with
    | tup g1 g2 => exact .inr (.inl ⟨_, _, rfl, g1.sq, h1 _ Z' H1 S1 _ (p2.flat (jok_tup g1 g2))⟩)
  · rename_i r eo
    rw [eo] at rd
    generalize hd : PyData.dict ((PyData.none, PyData.bool true) :: r) = d at rd
    cases rd with
    | dk g1 g2 =>
      cases hd
      obtain ⟨kk, ek⟩ := RDk.keys0 g2
      cases kk <;> cases ek
    | dt g1 g2 =>
      cases hd
      obtain ⟨kk, ek⟩ := RDt.keys0 g2
      cases ek
    | lk g1 g2 =>
      cases hd
      exact .inr (.inr (.inr ⟨_, _, _, rfl, p2.wd.zh _ _ g1, h1 _ Z' H1 S1 _ (p2.flat (jok_keys g1 g2))⟩))
    | _ => cases hd
  · rename_i s eo
    rw [eo] at rd
    cases rd
    exact .inr (.inr (.inl ⟨_, rfl, h1 _ Z' H1 S1 _ (p2.flat jok_str)⟩))
  · exact h1.elim
theorem rngOk_ok {i : Int} (h : rngOk i = true) : -(2 ^ 62) ≤ i ∧ i < 2 ^ 62 := by
  have := Nat.le_of_ble_eq_true h
  omega
theorem good_rng1 (ha : GoodE F cl a) : GoodI F cl (.rng1 a) := by
  intro X W c k tg ast ok hc _ σ S Z H e wd re Q h
  unfold chkI at hc
  split at hc
  · rename_i x p y pos
    simp only [Bool.and_eq_true] at hc
    have ex := of_decide_eq_true hc.1.1.1
    subst ex
    obtain ⟨b1, b2, b3, b4⟩ := ok.bltn hc.1.1.2
    unfold evIt at h
    refine wI_of (pi_range1 b1 b3 (pa_cons pe_wE pa_nil (plain_star hc.2)) (by rw [plain_star hc.2]; rfl)) (ha false X W c k y ok hc.1.2 σ S Z H e wd re _ (RSpec.bindAt wd .refl (fun o1 e1 _ v1 Z1 H1 S1 Sv1 p1 h1 => ?_) h))
    obtain ⟨r, rfl, h3⟩ := intOf_ok h1
    cases (show RO _ _ _ _ _ _ from p1.ro).int
    split at h3
    · rename_i cd
      obtain ⟨c1, c2⟩ := rngOk_ok cd
      have p1' : PR X.K (qt a) true σ S Z H e1 (repO X.K (.int r) (.fz (.int r))) Z1 H1 S1 Sv1 := p1
      exact ⟨_, rfl, c1, c2, h3 _ Z1 H1 S1 _ ((PR.flat (t2 := true) (R' := repJ X.K (Itr 0 r.toNat) (rngD 0 r.toNat)) jok_rng p1') |> fun z => ⟨z.wd, z.gr, z.re, z.ro, z.apart, z.sub, fun w => nomatch w⟩)⟩
    · exact h3.elim
  · cases hc
theorem good_rng2 (ha : GoodE F cl a) (hb : GoodE F cl b) : GoodI F cl (.rng2 a b) := by
  intro X W c k tg ast ok hc _ σ S Z H e wd re Q h
  unfold chkI at hc
  split at hc
  · rename_i x p y z pos
    simp only [Bool.and_eq_true] at hc
    have ex := of_decide_eq_true hc.1.1.1.1.1
    subst ex
    obtain ⟨b1, b2, b3, b4⟩ := ok.bltn hc.1.1.1.1.2
    unfold evIt at h
    refine wI_of (pi_range2 b1 b3 (pa_cons pe_wE (pa_cons pe_wE pa_nil (plain_star hc.2)) (plain_star hc.1.2)) (by rw [plain_star hc.1.2, plain_star hc.2]; rfl) (by rw [plain_star hc.2]; rfl)) (ha false X W c k y ok hc.1.1.1.2 σ S Z H e wd re _ (RSpec.bindAt wd .refl (fun o1 e1 _ v1 Z1 H1 S1 Sv1 p1 h1 => ?_) h))
    obtain ⟨r, rfl, h3⟩ := intOf_ok h1
    cases (show RO _ _ _ _ _ _ from p1.ro).int
    refine hb false X W c k z ok hc.1.1.2 σ S1 Z1 H1 e1 p1.wd p1.re _ (RSpec.bindAt p1.wd p1.gr (fun o2 e2 _ v2 Z2 H2 S2 Sv2 p2 h2 => ?_) h3)
    obtain ⟨r2, rfl, h4⟩ := intOf_ok h2
    cases (show RO _ _ _ _ _ _ from p2.ro).int
    split at h4
    · rename_i cd
      have cd' := Bool.and_eq_true_iff.mp cd
      obtain ⟨c1, c2⟩ := rngOk_ok cd'.1
      obtain ⟨c3, c4⟩ := rngOk_ok cd'.2
      have q : PR X.K false true σ S1 Z1 H1 e2 (repJ X.K (Itr r (r2 - r).toNat) (rngD r (r2 - r).toNat)) Z2 H2 S2 (fun _ => False) := (PR.flat (t2 := true) (R' := repJ X.K (Itr r (r2 - r).toNat) (rngD r (r2 - r).toNat)) jok_rng p2) |> fun z => ⟨z.wd, z.gr, z.re, z.ro, z.apart, z.sub, fun w => nomatch w⟩
      exact ⟨_, _, rfl, ⟨c1, c2, c3, c4⟩, h4 _ Z2 H2 S2 _ (q.shift p1.wd p1.gr fun z => nomatch z)⟩
    · exact h4.elim
  · cases hc
theorem good_enum (ha : GoodE F cl a) : GoodI F cl (.enum a) := by
  intro X W c k tg ast ok hc ht σ S Z H e wd re Q h
  unfold chkI at hc
  split at hc
  · rename_i x p y pos
    simp only [Bool.and_eq_true] at hc
    have ex := of_decide_eq_true hc.1.1.1
    subst ex
    obtain ⟨b1, b2, b3, b4⟩ := ok.bltn hc.1.1.2
    obtain ⟨es, n, tp, rfl⟩ := ht rfl
    unfold evIt at h
    refine wI_of (pi_enum b1 b3 (pa_cons pe_wE pa_nil (plain_star hc.2)) (by rw [plain_star hc.2]; rfl)) (ha false X W c k y ok hc.1.2 σ S Z H e wd re _ (RSpec.bindAt wd .refl (fun o1 e1 _ v1 Z1 H1 S1 Sv1 p1 h1 => ?_) h))
    obtain ⟨Z', p2, _⟩ := PR.frozen (show PR X.K (qt a) true σ S Z H e1 (repO X.K v1 o1) Z1 H1 S1 Sv1 from p1)
    have rd := (show RO _ _ _ _ _ _ from p2.ro).rd
    split at h1
    · rename_i ds eo
      rw [eo] at rd
      cases rd with
      | lst g1 g2 => exact ⟨_, _, rfl, sqL_ex p2.wd.zh g1, h1 _ Z' H1 S1 _ (p2.flat (jok_enum g1 g2))⟩
    · exact h1.elim
  · cases hc
theorem good_zip (ha : GoodE F cl a) (hb : GoodE F cl b) : GoodI F cl (.zip a b) := by
  intro X W c k tg ast ok hc ht σ S Z H e wd re Q h
  unfold chkI at hc
  split at hc
  · rename_i x p y z pos
    simp only [Bool.and_eq_true] at hc
    have ex := of_decide_eq_true hc.1.1.1.1.1
    subst ex
    obtain ⟨b1, b2, b3, b4⟩ := ok.bltn hc.1.1.1.1.2
    obtain ⟨es, n, tp, rfl⟩ := ht rfl
    unfold evIt at h
    refine wI_of (pi_zip b1 b3 (pa_cons pe_wE (pa_cons pe_wE pa_nil (plain_star hc.2)) (plain_star hc.1.2)) (by rw [plain_star hc.1.2]) (nostars (by unfold plainsB; rw [List.all_cons, hc.2]; rfl))) (ha false X W c k y ok hc.1.1.1.2 σ S Z H e wd re _ (RSpec.bindAt wd .refl (fun o1 e1 _ v1 Z1 H1 S1 Sv1 p1 h1 => ?_) h))
    obtain ⟨Z1', q1, _⟩ := PR.frozen (show PR X.K (qt a) true σ S Z H e1 (repO X.K v1 o1) Z1 H1 S1 Sv1 from p1)
    refine hb false X W c k z ok hc.1.1.2 σ S1 Z1' H1 e1 q1.wd q1.re _ (RSpec.bindAt q1.wd q1.gr (fun o2 e2 _ v2 Z2 H2 S2 Sv2 p2 h2 => ?_) h1)
    obtain ⟨Z2', q2, _⟩ := PR.frozen (show PR X.K (qt b) true σ S1 Z1' H1 e2 (repO X.K v2 o2) Z2 H2 S2 Sv2 from p2)
    have rd1 := ((show RO _ _ _ _ _ _ from q1.ro).rd).mono q2.gr.z (q2.tx q1.wd)
    have rd2 := (show RO _ _ _ _ _ _ from q2.ro).rd
    split at h2
    · rename_i xs ys eo1 eo2
      rw [eo1] at rd1
      rw [eo2] at rd2
      cases rd1 with
      | lst g1 g2 =>
        cases rd2 with
        | lst g3 g4 =>
          have q : PR X.K false true σ S1 Z1' H1 e2 (repJ X.K _ ((xs.zip ys).map fun p => .tuple [p.1, p.2])) Z2' H2 S2 (fun _ => False) := q2.flat (jok_zip g1 g2 g3 g4)
          exact ⟨_, _, _, _, rfl, sqL_ex q2.wd.zh g1, sqL_ex q2.wd.zh g3, h2 _ Z2' H2 S2 _ (q.shift q1.wd q1.gr fun z => nomatch z)⟩
    · exact h2.elim
  · cases hc
end
end Rim
namespace Rim
open PySem PySem.Spec PyProof.Rows L2

/-! ### tests -/
def wT (X : Cx) (a : Expr) : TT := fun σ H Q => ∀ pins s, Inv X pins σ H s → wpAny (model X.prog X.w) X.A (isTrue a X.env (eval a X.env)) (TP X pins σ Q) X.xe s
theorem pt_wT {X : Cx} {a : Expr} : PT X a (wT X a) := ⟨fun pins s σ H Q I h => h pins s I⟩
theorem wT_of {X : Cx} {a : Expr} {t : TT} (h : PT X a t) {σ : L2.St} {H : Hp} {Q : Bool → Hp → Prop} (q : t σ H Q) : wT X a σ H Q := fun pins s I => h.run pins s σ H Q I q
/-- an expression's value is tested as such -/
def tstB : Expr → Bool
  | .UnaryOp .Not _ _ => false
  | .BoolOp _ _ _ => false
  | .IfExp _ _ _ _ => false
  | .Compare _ _ _ _ => false
  | _ => true
theorem pt_plain {X : Cx} {a : Expr} {t : TE} (h : PE X a t) (q : tstB a = true) : PT X a (tB t) := by
  refine pt_val h fun wh => ?_
  cases a with
  | UnaryOp o x p => cases o <;> first | rfl | (simp [tstB] at q)
  | BoolOp o x p => simp [tstB] at q
  | IfExp a b c p => simp [tstB] at q
  | Compare a b c p => simp [tstB] at q
  | _ => rfl
section
variable {c : CT} {F : Fns} {cl : Str → Value} {k : Nat} {W : WX} {X : Cx} {σ : L2.St} {S S1 S2 Sv Sv1 Sv2 T B : AS} {Z H Z1 H1 Z2 H2 : Hp} {e e1 e2 : Env} {a b : E} {x : Str}
def GoodT (F : Fns) (cl : Str → Value) (a : E) : Prop := ∀ (X : Cx) (W : WX) (c : CT) (k : Nat) (ast : Expr), XOk c F cl k W X → chk c a ast = true → ∀ (σ : L2.St) (S : AS) (Z H : Hp) (e : Env), Wd S Z H → RE X.K Z H σ e S →
  SR X W cl repId (qt a) true (wT X ast) σ S Z H ((ev F false a e).bind fun x e1 => boolOf x e1)
def lgB : E → Bool
  | .not _ | .band _ _ | .bor _ _ | .cmp _ _ _ | .frz _ | .lck _ | .cmpA _ _ _ => true
  | _ => false
theorem bool_spec {q t t' : Bool} {r : Rs O} {Q : Bool → Hp → Prop} (h : RSpec X W cl repId q t' σ S Z H (r.bind fun x e1 => boolOf x e1) Q) : RSpec X W cl (repO X.K) q t σ S Z H r (fun v H => ∃ c, v = .bl c ∧ Q c H) := by
  cases r with
  | no => exact h
  | ex c e => exact h
  | ok o e =>
    intro v Z' H' S' Sv p
    cases o with
    | fz d =>
      cases d with
      | bool c =>
        cases (show RO _ _ _ _ _ _ from p.ro).bl
        exact ⟨c, rfl, h c Z' H' S' _ (p.flat rfl)⟩
      | _ => exact False.elim h
    | _ => exact False.elim h
theorem chk_tst {ast : Expr} (h : chk c a ast = true) (q : lgB a = false) : tstB ast = true := by
  cases a <;> first
    | (simp [lgB] at q; done)
    | (unfold chk at h; split at h <;> first | rfl | (cases h; done))
theorem goodT_plain (ha : GoodE F cl a) (q : lgB a = false) : GoodT F cl a := by
  intro X W c k ast ok hc σ S Z H e wd re Q h
  exact wT_of (pt_plain pe_wE (chk_tst hc q)) (ha false X W c k ast ok hc σ S Z H e wd re _ (bool_spec h))
theorem goodT_cmp {op : Cop} (ha : GoodE F cl a) (hb : GoodE F cl b) : GoodT F cl (.cmp op a b) := by
  intro X W c k ast ok hc σ S Z H e wd re Q h'
  have h := bool_spec (t := true) h'
  unfold chk at hc
  split at hc
  · rename_i x p y pos
    simp only [Bool.and_eq_true] at hc
    cases cpB_eq hc.1.1.1
    unfold ev at h
    refine fun pins s I => wpAny_isTrue_Compare1 ?_ (plain_mark hc.2)
    have main := ha true X W c k x ok hc.1.1.2 σ S Z H e wd re (fun v H1 => wE X y σ H1 fun u H2 => OpV X (compareOp (cpA op)) σ v u H2 fun v H => ∃ c, v = .bl c ∧ Q c H) (RSpec.bind (q2 := qt b) (fun z => by simpa [qt] using z) (fun o1 e1 _ v1 Z1 H1 S1 Sv1 p1 h1 => by
      refine hb true X W c k y ok hc.1.2 σ S1 Z1 H1 e1 p1.wd p1.re _ (RSpec.bind (q2 := true) (fun z => ⟨z, rfl⟩) (fun o2 e2 _ v2 Z2 H2 S2 Sv2 p2 h2 => ?_) h1)
      split at h2
      · rename_i cd
        obtain ⟨o3, e3, h3⟩ := RSpec.of h2
        obtain ⟨r, e4, e5⟩ := Option.map_eq_some_iff.mp e3
        subst e5
        have r1 := fst_kept p1 p2 (by simpa using cond3 cd)
        exact cmpO_ok e4 ok.hu r1 p2.ro p2.wd.zh (h3 _ Z2 H2 S2 _ (PR.here p2.wd p2.re (.fz (.bl _))))
      · exact h2.elim) h)
    refine thn (main pins s I) fun v s1 ⟨x1, H1, I1, r1, q1⟩ => thn (q1 pins s1 I1) fun u s2 ⟨x2, H2, I2, r2, q2⟩ => thn (q2 pins s2 v u I2 r1 r2) fun w s3 ⟨x3, H3, I3, r3, q3⟩ => ?_
    obtain ⟨d, rfl, q⟩ := q3
    cases r3
    exact wpAny_truthy_bool ⟨H3, I3, q⟩
  · cases hc
theorem goodT_cmpA {op : Cop} {i : Nat} (hb : GoodE F cl b) : GoodT F cl (.cmpA op i b) := by
  intro X W c k ast ok hc σ S Z H e wd re Q h'
  have h := bool_spec (t := true) h'
  unfold chk at hc
  split at hc
  · rename_i x xp p y pos
    simp only [Bool.and_eq_true] at hc
    cases cpB_eq hc.1.1.1
    unfold ev at h
    refine fun pins s I => wpAny_isTrue_Compare1 ?_ (plain_mark hc.2)
    have main : wE X (.Name x xp) σ H fun v H1 => wE X y σ H1 fun u H2 => OpV X (compareOp (cpA op)) σ v u H2 fun v H => ∃ c, v = .bl c ∧ Q c H := by
      split at h
      · rename_i o0 he
        obtain ⟨v, S1, S2, h1, h2, h3, h4, h5, h6⟩ := re.at he
        refine wE_of (ok.name hc.1.1.2) ⟨v, h1, ?_⟩
        refine hb true X W c k y ok hc.1.2 σ S Z H e wd re _ (RSpec.bind (q2 := qt b) (fun z => by simp [qt] at z) (fun o2 e2 _ v2 Z2 H2 S2 Sv2 p2 h2 => ?_) h)
        split at h2
        · rename_i ox he1
          obtain ⟨o3, e3, h3'⟩ := RSpec.of h2
          obtain ⟨r, e4, e5⟩ := Option.map_eq_some_iff.mp e3
          subst e5
          obtain ⟨A, r1, r2⟩ := slot_kept p2 h1 he1
          exact cmpO_ok e4 ok.hu r1 p2.ro p2.wd.zh (h3' _ Z2 H2 _ _ (PR.here p2.wd p2.re (.fz (.bl _))))
        · exact h2.elim
      · exact h.elim
    refine thn (main pins s I) fun v s1 ⟨x1, H1, I1, r1, q1⟩ => thn (q1 pins s1 I1) fun u s2 ⟨x2, H2, I2, r2, q2⟩ => thn (q2 pins s2 v u I2 r1 r2) fun w s3 ⟨x3, H3, I3, r3, q3⟩ => ?_
    obtain ⟨d, rfl, q⟩ := q3
    cases r3
    exact wpAny_truthy_bool ⟨H3, I3, q⟩
  · cases hc
theorem goodT_not (ha : GoodT F cl a) : GoodT F cl (.not a) := by
  intro X W c k ast ok hc σ S Z H e wd re Q h
  unfold chk at hc
  split at hc
  · rename_i x pos
    unfold ev at h
    refine wT_of (pt_not pt_wT) (ha X W c k x ok hc σ S Z H e wd re _ ?_)
    revert h
    cases ev F false a e with
    | no => exact fun h => h
    | ex c e => exact fun h => h
    | ok o e1 =>
      cases o with
      | fz d =>
        cases d with
        | bool r => exact fun h v Z' H' S' Sv p => by cases (show v = r from p.ro); exact h _ Z' H' S' _ (p.flat rfl)
        | _ => exact fun h => h
      | _ => exact fun h => h
  · cases hc
theorem pw_wT {X : Cx} {op : BoolOp} {y : Expr} {r : List Expr} {p : Pos} : PW X (.BoolOp op (y :: r) p) (wT X (.BoolOp op (y :: r) p)) := ⟨fun wh pins s σ H Q I h => h pins s I⟩
theorem pw_last {op : BoolOp} {y : Expr} {p : Pos} : PW X (.BoolOp op [y] p) (wT X y) := by
  cases op with
  | And => exact pw_and1 pt_wT
  | Or => exact pw_or1 pt_wT
theorem goodT_band (ha : GoodT F cl a) (hb : GoodT F cl b) : GoodT F cl (.band a b) := by
  intro X W c k ast ok hc σ S Z H e wd re Q h
  unfold chk at hc
  split at hc
  · rename_i x y r p
    simp only [Bool.and_eq_true] at hc
    have hy : ∃ z, chk c b z = true ∧ PW X (.BoolOp .And (y :: r) p) (wT X z) := by
      cases r with
      | nil => exact ⟨y, hc.2, pw_last⟩
      | cons z r => exact ⟨_, hc.2, pw_wT⟩
    obtain ⟨z, hz, pz⟩ := hy
    unfold ev at h
    have h2 : RSpec X W cl repId (qt (.band a b)) true σ S Z H (((ev F false a e).bind fun x e1 => boolOf x e1).bind fun r e1 => if r then (ev F false b e1).bind (fun x e1 => boolOf x e1) else .ok false e1) Q := by
      revert h
      cases ev F false a e with
      | no => exact fun h => h
      | ex c e => exact fun h => h
      | ok o e1 =>
        cases o with
        | fz d =>
          cases d with
          | bool r =>
            cases r with
            | false => exact fun h => h
            | true =>
              show RSpec _ _ _ _ _ _ _ _ _ _ (Rs.bind (Rs.bind (ev F false b e1) _) _) Q → RSpec _ _ _ _ _ _ _ _ _ _ (Rs.bind (ev F false b e1) _) Q
              cases ev F false b e1 with
              | no => exact fun h => h
              | ex c e => exact fun h => h
              | ok o e2 =>
                cases o with
                | fz d =>
                  cases d with
                  | bool r => exact fun h => h
                  | _ => exact fun h => h
                | _ => exact fun h => h
          | _ => exact fun h => h
        | _ => exact fun h => h
    refine wT_of (pw_and pt_wT pz).pt (ha X W c k x ok hc.1 σ S Z H e wd re _ (RSpec.bind (q2 := qt b) (fun z => by simpa [qt] using z) (fun o1 e1 _ v1 Z1 H1 S1 Sv1 p1 h1 => ?_) h2))
    cases (show v1 = o1 from p1.ro)
    cases o1 with
    | false => exact h1 _ Z1 H1 S1 _ (PR.here p1.wd p1.re rfl)
    | true => exact hb X W c k z ok hz σ S1 Z1 H1 e1 p1.wd p1.re _ h1
  · cases hc
theorem goodT_bor (ha : GoodT F cl a) (hb : GoodT F cl b) : GoodT F cl (.bor a b) := by
  intro X W c k ast ok hc σ S Z H e wd re Q h
  unfold chk at hc
  split at hc
  · rename_i x y r p
    simp only [Bool.and_eq_true] at hc
    have hy : ∃ z, chk c b z = true ∧ PW X (.BoolOp .Or (y :: r) p) (wT X z) := by
      cases r with
      | nil => exact ⟨y, hc.2, pw_last⟩
      | cons z r => exact ⟨_, hc.2, pw_wT⟩
    obtain ⟨z, hz, pz⟩ := hy
    unfold ev at h
    have h2 : RSpec X W cl repId (qt (.bor a b)) true σ S Z H (((ev F false a e).bind fun x e1 => boolOf x e1).bind fun r e1 => if r then .ok true e1 else (ev F false b e1).bind (fun x e1 => boolOf x e1)) Q := by
      revert h
      cases ev F false a e with
      | no => exact fun h => h
      | ex c e => exact fun h => h
      | ok o e1 =>
        cases o with
        | fz d =>
          cases d with
          | bool r =>
            cases r with
            | true => exact fun h => h
            | false =>
              show RSpec _ _ _ _ _ _ _ _ _ _ (Rs.bind (Rs.bind (ev F false b e1) _) _) Q → RSpec _ _ _ _ _ _ _ _ _ _ (Rs.bind (ev F false b e1) _) Q
              cases ev F false b e1 with
              | no => exact fun h => h
              | ex c e => exact fun h => h
              | ok o e2 =>
                cases o with
                | fz d =>
                  cases d with
                  | bool r => exact fun h => h
                  | _ => exact fun h => h
                | _ => exact fun h => h
          | _ => exact fun h => h
        | _ => exact fun h => h
    refine wT_of (pw_or pt_wT pz).pt (ha X W c k x ok hc.1 σ S Z H e wd re _ (RSpec.bind (q2 := qt b) (fun z => by simpa [qt] using z) (fun o1 e1 _ v1 Z1 H1 S1 Sv1 p1 h1 => ?_) h2))
    cases (show v1 = o1 from p1.ro)
    cases o1 with
    | true => exact h1 _ Z1 H1 S1 _ (PR.here p1.wd p1.re rfl)
    | false => exact hb X W c k z ok hz σ S1 Z1 H1 e1 p1.wd p1.re _ h1
  · cases hc
end

/-! ### targets -/
def wG (X : Cx) (tg : Expr) : TG := fun v σ H Q => ∀ pins s u, Inv X pins σ H s → RelV v u → wpAny (model X.prog X.w) X.A (assign tg X.env u) (fun _ s' => ∃ σ' H', Inv X pins σ' H' s' ∧ Q σ' H') X.xe s
theorem pg_wG {X : Cx} {tg : Expr} : PG X tg (wG X tg) := ⟨fun pins s σ H v u Q I r h => h pins s u I r⟩
theorem wG_of {X : Cx} {tg : Expr} {t : TG} (h : PG X tg t) {v : V} {σ : L2.St} {H : Hp} {Q : L2.St → Hp → Prop} (q : t v σ H Q) : wG X tg v σ H Q := fun pins s u I r => h.run pins s σ H v u Q I r q
/-- slots that agree but for vs -/
def Ag (vs : List Nat) (σ σ' : L2.St) : Prop := σ'.length = σ.length ∧ ∀ i, i ∉ vs → σ'[i]? = σ[i]?
theorem Ag.refl {vs : List Nat} {σ : L2.St} : Ag vs σ σ := ⟨rfl, fun _ _ => rfl⟩
theorem Ag.trans {vs : List Nat} {σ σ1 σ2 : L2.St} (a : Ag vs σ σ1) (b : Ag vs σ1 σ2) : Ag vs σ σ2 := ⟨b.1.trans a.1, fun i h => (b.2 i h).trans (a.2 i h)⟩
theorem Ag.sub {vs ws : List Nat} {σ σ1 : L2.St} (a : Ag vs σ σ1) (h : ∀ i ∈ vs, i ∈ ws) : Ag ws σ σ1 := ⟨a.1, fun i q => a.2 i fun z => q (h i z)⟩
theorem Ag.set {vs : List Nat} {σ : L2.St} {i : Nat} {x : Option V} (h : i ∈ vs) : Ag vs σ (σ.set i x) := ⟨by simp, fun j q => by
  rw [List.getElem?_set_ne]
  intro z
  subst z
  exact q h⟩
theorem wipe_get {σ : L2.St} {i : Nat} : ∀ {vs : List Nat}, i ∉ vs → (wipe σ vs)[i]? = σ[i]?
  | [], _ => rfl
  | v :: vs, h => by
    have h' : i ≠ v ∧ i ∉ vs := by simpa using h
    show ((wipe σ vs).set v none)[i]? = _
    rw [List.getElem?_set_ne (Ne.symm h'.1), wipe_get h'.2]
theorem wipe_in {σ : L2.St} {i : Nat} (hi : i < σ.length) : ∀ {vs : List Nat}, i ∈ vs → (wipe σ vs)[i]? = some none
  | v :: vs, h => by
    show ((wipe σ vs).set v none)[i]? = _
    by_cases e : v = i
    · subst e
      rw [List.getElem?_set_self (by rw [wipe_length]; exact hi)]
    · rw [List.getElem?_set_ne e]
      exact wipe_in hi (by simpa [Ne.symm e] using h)
theorem wipe_ag {vs : List Nat} {σ σ' : L2.St} (h : Ag vs σ σ') : wipe σ' vs = wipe σ vs := by
  apply List.ext_getElem?
  intro i
  by_cases q : i ∈ vs
  · by_cases l : i < σ.length
    · rw [wipe_in l q, wipe_in (by rw [h.1]; exact l) q]
    · rw [List.getElem?_eq_none (by rw [wipe_length, h.1]; omega), List.getElem?_eq_none (by rw [wipe_length]; omega)]
  · rw [wipe_get q, wipe_get q, h.2 i q]
theorem ag_wipe {vs : List Nat} {σ : L2.St} : Ag vs σ (wipe σ vs) := ⟨wipe_length _ _, fun _ h => wipe_get h⟩
theorem RE.wipe {K : PySem.W.Frag} {Z H : Hp} {σ : L2.St} {e : Env} {S : AS} (h : RE K Z H σ e S) : ∀ vs : List Nat, RE K Z H (L2.wipe σ vs) (wipeE e vs) S
  | [] => h
  | v :: vs => (RE.wipe h vs).forget v none
theorem plain_each {a : Expr} {r : List Expr} {env : PySem.Env} (h : plainB a = true) : assignEach (a :: r) env = (false, assign a env) :: assignEach r env := by
  cases a <;> first | rfl | (simp [plainB] at h)
section
variable {c : CT} {F : Fns} {cl : Str → Value} {k : Nat} {W : WX} {X : Cx}
theorem tg_ok (ok : XOk c F cl k W X) : ∀ {tg : Tg} {ast : Expr}, chkTg c tg ast = true → ∀ {σ : L2.St} {S : AS} {Z H : Hp} {e e' : Env} {v : V} {d : PyData} {Q : L2.St → Hp → Prop}, RD X.K Z H v d → setTg tg d e = some e' → RE X.K Z H σ e S →
    (∀ σ', RE X.K Z H σ' e' S → Ag (tgS tg) σ σ' → Q σ' H) → wG X ast v σ H Q
  | .nm i, ast, hc, σ, S, Z, H, e, e', v, d, Q, rd, hs, re, q => by
    unfold chkTg at hc
    split at hc
    · rename_i x pos
      have hc' := Bool.and_eq_true_iff.mp hc
      obtain ⟨l1, l2⟩ := ok.loc hc'.2
      have hN : X.N[i]? = some x := by rw [ok.N]; exact of_decide_eq_true hc'.1
      cases (Option.some.inj hs)
      refine wG_of (pg_name (by rw [ok.N]; exact ok.nd) hN l1 l2) (q _ ?_ (Ag.set (by simp [tgS])))
      exact (re.set (S1 := fun _ => False) (.fz rd) (fun _ z => z.elim) i).up fun x z => z.elim (fun y => y.elim) fun y => y
    · cases hc
  | .tp a b, ast, hc, σ, S, Z, H, e, e', v, d, Q, rd, hs, re, q => by
    unfold chkTg at hc
    split at hc
    · rename_i x y n pos
      simp only [Bool.and_eq_true] at hc
      obtain ⟨hc, hcalm⟩ := hc
      unfold setTg at hs
      split at hs
      · rename_i d1 d2
        obtain ⟨e1, s1, s2⟩ := Option.bind_eq_some_iff.mp hs
        cases rd with
        | tup g1 g2 =>
          cases g2 with
          | cons r1 g2 =>
            cases g2 with
            | cons r2 g2 =>
              cases g2
              refine wG_of (pg_tup (ok.calm hcalm) (pgs_cons pg_wG (pgs_cons pg_wG pgs_nil (by rw [plain_each hc.2]; rfl)) (by rw [plain_each hc.1.2]; rfl)) (n := 2) (by rw [plain_each hc.1.2, plain_each hc.2]; rfl) (by rw [plain_each hc.1.2, plain_each hc.2]; rfl)) ⟨_, _, rfl, g1.sq, rfl, _, _, rfl, ?_⟩
              refine tg_ok ok hc.1.1.1 r1 s1 re fun σ1 re1 a1 => ⟨_, _, rfl, tg_ok ok hc.1.1.2 r2 s2 re1 fun σ2 re2 a2 => ⟨rfl, ?_⟩⟩
              exact q σ2 re2 ((a1.sub fun i z => List.mem_append_left _ z).trans (a2.sub fun i z => List.mem_append_right _ z))
      · cases hs
    · cases hc
  | .tp3 a b f, ast, hc, σ, S, Z, H, e, e', v, d, Q, rd, hs, re, q => by
    unfold chkTg at hc
    split at hc
    · rename_i x y z n pos
      simp only [Bool.and_eq_true] at hc
      obtain ⟨hc, hcalm⟩ := hc
      unfold setTg at hs
      split at hs
      · rename_i d1 d2 d3
        obtain ⟨e1, s1, s2'⟩ := Option.bind_eq_some_iff.mp hs
        obtain ⟨e2, s2, s3⟩ := Option.bind_eq_some_iff.mp s2'
        cases rd with
        | tup g1 g2 =>
          cases g2 with
          | cons r1 g2 =>
            cases g2 with
            | cons r2 g2 =>
              cases g2 with
              | cons r3 g2 =>
                cases g2
                have p1 := hc.1.1.2
                have p2 := hc.1.2
                have p3 := hc.2
                refine wG_of (pg_tup (ok.calm hcalm) (pgs_cons pg_wG (pgs_cons pg_wG (pgs_cons pg_wG pgs_nil (by rw [plain_each p3]; rfl)) (by rw [plain_each p2]; rfl)) (by rw [plain_each p1]; rfl)) (n := 3) (by rw [plain_each p1, plain_each p2, plain_each p3]; rfl) (by rw [plain_each p1, plain_each p2, plain_each p3]; rfl)) ⟨_, _, rfl, g1.sq, rfl, _, _, rfl, ?_⟩
                refine tg_ok ok hc.1.1.1.1.1 r1 s1 re fun σ1 re1 a1 => ⟨_, _, rfl, tg_ok ok hc.1.1.1.1.2 r2 s2 re1 fun σ2 re2 a2 => ⟨_, _, rfl, tg_ok ok hc.1.1.1.2 r3 s3 re2 fun σ3 re3 a3 => ⟨rfl, ?_⟩⟩⟩
                exact q σ3 re3 (((a1.sub fun i z => List.mem_append_left _ z).trans (a2.sub fun i z => List.mem_append_right _ (List.mem_append_left _ z))).trans (a3.sub fun i z => List.mem_append_right _ (List.mem_append_right _ z)))
      · cases hs
    · cases hc
  | .tp4 a b f g, ast, hc, σ, S, Z, H, e, e', v, d, Q, rd, hs, re, q => by
    unfold chkTg at hc
    split at hc
    · rename_i x y z u n pos
      simp only [Bool.and_eq_true] at hc
      obtain ⟨hc, hcalm⟩ := hc
      unfold setTg at hs
      split at hs
      · rename_i d1 d2 d3 d4
        obtain ⟨e1, s1, s2'⟩ := Option.bind_eq_some_iff.mp hs
        obtain ⟨e2, s2, s3'⟩ := Option.bind_eq_some_iff.mp s2'
        obtain ⟨e3, s3, s4⟩ := Option.bind_eq_some_iff.mp s3'
        cases rd with
        | tup g1 g2 =>
          cases g2 with
          | cons r1 g2 =>
            cases g2 with
            | cons r2 g2 =>
              cases g2 with
              | cons r3 g2 =>
                cases g2 with
                | cons r4 g2 =>
                  cases g2
                  obtain ⟨⟨⟨⟨⟨⟨⟨k1, k2⟩, k3⟩, k4⟩, p1⟩, p2⟩, p3⟩, p4⟩ := hc
                  refine wG_of (pg_tup (ok.calm hcalm) (pgs_cons pg_wG (pgs_cons pg_wG (pgs_cons pg_wG (pgs_cons pg_wG pgs_nil (by rw [plain_each p4]; rfl)) (by rw [plain_each p3]; rfl)) (by rw [plain_each p2]; rfl)) (by rw [plain_each p1]; rfl)) (n := 4) (by rw [plain_each p1, plain_each p2, plain_each p3, plain_each p4]; rfl) (by rw [plain_each p1, plain_each p2, plain_each p3, plain_each p4]; rfl)) ⟨_, _, rfl, g1.sq, rfl, _, _, rfl, ?_⟩
                  refine tg_ok ok k1 r1 s1 re fun σ1 re1 a1 => ⟨_, _, rfl, tg_ok ok k2 r2 s2 re1 fun σ2 re2 a2 => ⟨_, _, rfl, tg_ok ok k3 r3 s3 re2 fun σ3 re3 a3 => ⟨_, _, rfl, tg_ok ok k4 r4 s4 re3 fun σ4 re4 a4 => ⟨rfl, ?_⟩⟩⟩⟩
                  exact q σ4 re4 ((((a1.sub fun i z => List.mem_append_left _ z).trans (a2.sub fun i z => List.mem_append_right _ (List.mem_append_left _ z))).trans (a3.sub fun i z => List.mem_append_right _ (List.mem_append_right _ (List.mem_append_left _ z)))).trans (a4.sub fun i z => List.mem_append_right _ (List.mem_append_right _ (List.mem_append_right _ z))))
      · cases hs
    · cases hc
end
end Rim
namespace Rim
open PySem PySem.Spec PyProof.Rows L2

/-! ### a tree with a hole: the place that is written at -/
structure Hole (K : PySem.W.Frag) (Z H : Hp) (v : V) (S : AS) (w : V) (o : O) (T : AS) (put : O → O) : Prop where
  ro : RO K Z H w o T
  sub : ∀ x, T x → S x
  plug : ∀ (Z' H' : Hp) (o' : O) (T' : AS), Ex Z Z' → Tx K H H' → (∀ a u, S a → ¬ T a → H a = some u → H' a = some u) → RO K Z' H' w o' T' → (∀ x, T' x → T x ∨ ¬ S x) → RO K Z' H' v (put o') (fun x => (S x ∧ ¬ T x) ∨ T' x)
section
variable {K : PySem.W.Frag} {Z Z' H H' Z1 H1 Z2 H2 : Hp} {σ : L2.St} {e e1 e2 : Env} {S S' S1 S2 Sv T A B : AS} {v w : V} {o : O} {os ps : List O} {put : O → O} {n : Nat} {xs ys : List V} {kvs0 : List (Key × O)} {kts0 : List (List Key × O)}
theorem Hole.root (h : RO K Z H v o S) : Hole K Z H v S v o S fun x => x := ⟨h, fun _ q => q, fun Z' H' o' T' _ _ _ r _ => r.up fun _ => .inr⟩
theorem Hole.stay (h : Hole K Z H v S w o T put) (ez : Ex Z Z1) (t : Tx K H H1) (k : ∀ a u, S a → H a = some u → H1 a = some u) : Hole K Z1 H1 v S w o T put :=
  ⟨h.ro.stay ez t fun a u q => k a u (h.sub a q), h.sub, fun Z' H' o' T' ez' t' kp => h.plug Z' H' o' T' (ez.trans ez') (t.trans t') fun a u s n q => kp a u s n (k a u s q)⟩
theorem ROs.hole (h : ROs K Z H xs os S) : ∀ {n : Nat} {o : O}, os[n]? = some o → ∃ w T, xs[n]? = some w ∧ RO K Z H w o T ∧ (∀ x, T x → S x) ∧ ∀ (Z' H' : Hp) (o' : O) (T' : AS), Ex Z Z' → Tx K H H' → (∀ a u, S a → ¬ T a → H a = some u → H' a = some u) → RO K Z' H' w o' T' →
    (∀ x, T' x → T x ∨ ¬ S x) → ROs K Z' H' xs (os.set n o') (fun x => (S x ∧ ¬ T x) ∨ T' x) := by
  induction os generalizing xs S with
  | nil => intro n o q; simp at q
  | cons o1 os ih =>
    intro n o q
    cases h with
    | cons h1 h2 b c d =>
      rename_i v1 vs A1 A2
      cases n with
      | zero =>
        have e1 := Option.some.inj q
        subst e1
        refine ⟨v1, A1, rfl, h1, b, fun Z' H' o' T' ez t kp r hT => ?_⟩
        refine .cons r (ROs.stay ez t h2 fun a u z => kp a u (c a z) fun y => d a y z) (fun _ => .inr) (fun x z => .inl ⟨c x z, fun y => d x y z⟩) fun x z y => ?_
        rcases hT x z with k | k
        · exact d x k y
        · exact k (c x y)
      | succ n =>
        obtain ⟨w, T, g1, g2, g3, g4⟩ := ih h2 (n := n) (o := o) (by simpa using q)
        refine ⟨w, T, by simpa using g1, g2, fun x z => c x (g3 x z), fun Z' H' o' T' ez t kp r hT => ?_⟩
        have dT : ∀ x, A1 x → ¬ T x := fun x z y => d x z (g3 x y)
        refine .cons (h1.stay ez t fun a u z => kp a u (b a z) (dT a z)) (g4 Z' H' o' T' ez t (fun a u z y => kp a u (c a z) y) r fun x z => (hT x z).imp id fun y k => y (c x k)) (fun x z => .inl ⟨b x z, dT x z⟩)
          (fun x z => z.imp (fun y => ⟨c x y.1, y.2⟩) id) fun x z y => ?_
        rcases y with y | y
        · exact d x z y.1
        · rcases hT x y with k | k
          · exact dT x z k
          · exact k (b x z)
theorem Hole.lst (h : Hole K Z H v S w (.lst os) T put) (q : os[n]? = some o) : ∃ a xs w' T', w = .ref a ∧ H a = some (.lst xs) ∧ xs.length = os.length ∧ xs[n]? = some w' ∧ Hole K Z H v S w' o T' fun y => put (.lst (os.set n y)) := by
  have r := h.ro
  cases r with
  | lst g1 g2 g3 g4 g5 =>
    rename_i a xs T1
    obtain ⟨w', T', k1, k2, k3, k4⟩ := g3.hole q
    refine ⟨a, xs, w', T', rfl, g1, g3.length, k1, k2, fun x z => h.sub x (g4 x (k3 x z)), fun Z' H' o' T'' ez t kp r hT => ?_⟩
    have na : ¬ T' a := fun z => g5 (k3 a z)
    have sa : S a := h.sub a g2
    have r2 := k4 Z' H' o' T'' ez t (fun a u z y => kp a u (h.sub a (g4 a z)) y) r fun x z => (hT x z).imp id fun y k => y (h.sub x (g4 x k))
    have r3 : RO K Z' H' (.ref a) (.lst (os.set n o')) (fun x => (T x ∧ ¬ T' x) ∨ T'' x) := .lst (kp a _ sa na g1) (.inl ⟨g2, na⟩) r2 (fun x z => z.imp (fun y => ⟨g4 x y.1, y.2⟩) id) fun z => by
      rcases z with z | z
      · exact g5 z.1
      · rcases hT a z with y | y
        · exact na y
        · exact y sa
    refine (h.plug Z' H' _ _ ez t (fun a u z y => kp a u z fun k => y (g4 a (k3 a k))) r3 fun x z => ?_).up fun x z => ?_
    · rcases z with z | z
      · exact .inl z.1
      · exact (hT x z).imp (fun y => g4 x (k3 x y)) id
    · rcases z with z | z | z
      · exact .inl ⟨z.1, fun y => z.2 (g4 x (k3 x y))⟩
      · exact .inl ⟨h.sub x z.1, z.2⟩
      · exact .inr z
theorem Hole.tup (h : Hole K Z H v S w (.tup os) T put) (q : os[n]? = some o) : ∃ a xs w' T', w = .ref a ∧ TpX H a xs ∧ xs.length = os.length ∧ xs[n]? = some w' ∧ Hole K Z H v S w' o T' fun y => put (.tup (os.set n y)) := by
  have r := h.ro
  cases r with
  | tup g1 g3 =>
    rename_i a xs
    obtain ⟨w', T', k1, k2, k3, k4⟩ := g3.hole q
    refine ⟨a, xs, w', T', rfl, g1, g3.length, k1, k2, fun x z => h.sub x (k3 x z), fun Z' H' o' T'' ez t kp r hT => ?_⟩
    have r2 := k4 Z' H' o' T'' ez t (fun a u z y => kp a u (h.sub a z) y) r fun x z => (hT x z).imp id fun y k => y (h.sub x k)
    have r3 : RO K Z' H' (.ref a) (.tup (os.set n o')) (fun x => (T x ∧ ¬ T' x) ∨ T'' x) := .tup (t _ _ g1) r2
    refine (h.plug Z' H' _ _ ez t (fun a u z y => kp a u z fun k => y (k3 a k)) r3 fun x z => ?_).up fun x z => ?_
    · rcases z with z | z
      · exact .inl z.1
      · exact (hT x z).imp (fun y => k3 x y) id
    · rcases z with z | z | z
      · exact .inl ⟨z.1, fun y => z.2 (k3 x y)⟩
      · exact .inl ⟨h.sub x z.1, z.2⟩
      · exact .inr z
theorem Hole.dk {kvs : List (Key × O)} {kk : Key} (h : Hole K Z H v S w (.dk kvs) T put) (q : get1 kvs kk = some o) : ∃ a xs w' T', w = .ref a ∧ H a = some (.dK xs) ∧ get1 xs kk = some w' ∧ Hole K Z H v S w' o T' fun y => put (.dk (put1 kvs kk y)) := by
  have r := h.ro
  cases r with
  | dk g1 g2 g3 g4 g5 =>
    rename_i a xs T1
    obtain ⟨w', T', k1, k2, k3, k4⟩ := (g3.get (k := kk)).2 o q
    refine ⟨a, xs, w', T', rfl, g1, k1, k2, fun x z => h.sub x (g4 x (k3 x z)), fun Z' H' o' T'' ez t kp r hT => ?_⟩
    have na : ¬ T' a := fun z => g5 (k3 a z)
    have sa : S a := h.sub a g2
    have r2 := k4 Z' H' o' T'' ez t (fun a u z y => kp a u (h.sub a (g4 a z)) y) r fun x z => (hT x z).imp id fun y k => y (h.sub x (g4 x k))
    have r3 : RO K Z' H' (.ref a) (.dk (put1 kvs kk o')) (fun x => (T x ∧ ¬ T' x) ∨ T'' x) := .dk (kp a _ sa na g1) (.inl ⟨g2, na⟩) r2 (fun x z => z.imp (fun y => ⟨g4 x y.1, y.2⟩) id) fun z => by
      rcases z with z | z
      · exact g5 z.1
      · rcases hT a z with y | y
        · exact na y
        · exact y sa
    refine (h.plug Z' H' _ _ ez t (fun a u z y => kp a u z fun k => y (g4 a (k3 a k))) r3 fun x z => ?_).up fun x z => ?_
    · rcases z with z | z
      · exact .inl z.1
      · exact (hT x z).imp (fun y => g4 x (k3 x y)) id
    · rcases z with z | z | z
      · exact .inl ⟨z.1, fun y => z.2 (g4 x (k3 x y))⟩
      · exact .inl ⟨h.sub x z.1, z.2⟩
      · exact .inr z
/-- a list at the place, rewritten -/
theorem Hole.list (h : Hole K Z H v S w (.lst os) T put) : ∃ a xs T1, w = .ref a ∧ H a = some (.lst xs) ∧ T a ∧ ROs K Z H xs os T1 ∧ (∀ x, T1 x → T x) ∧ ¬ T1 a ∧
    ∀ (ys : List V) (os' : List O) (B : AS), Tx K H (upd H a (.lst ys)) → ROs K Z H ys os' B → (∀ x, B x → T1 x ∨ ¬ S x) → RO K Z (upd H a (.lst ys)) v (put (.lst os')) (fun x => (S x ∧ ¬ T x) ∨ x = a ∨ B x) := by
  have r := h.ro
  cases r with
  | lst g1 g2 g3 g4 g5 =>
    rename_i a xs T1
    refine ⟨a, xs, T1, rfl, g1, g2, g3, g4, g5, fun ys os' B tx r hB => ?_⟩
    have nB : ¬ B a := fun z => (hB a z).elim g5 fun y => y (h.sub a g2)
    have r2 : ROs K Z (upd H a (.lst ys)) ys os' B := ROs.stay (Ex.refl _) tx r fun x u z y => by
      rw [upd_ne fun k => nB (by rw [← k]; exact z)]
      exact y
    have r3 : RO K Z (upd H a (.lst ys)) (.ref a) (.lst os') (fun x => x = a ∨ B x) := .lst upd_same (.inl rfl) r2 (fun _ => .inr) nB
    refine h.plug Z _ _ _ (Ex.refl _) tx (fun x u z y k => ?_) r3 fun x z => ?_
    · rw [upd_ne fun q => y (by rw [q]; exact g2)]
      exact k
    · rcases z with z | z
      · exact .inl (by rw [z]; exact g2)
      · exact (hB x z).imp (g4 x) id
/-- a dict at the place, rewritten -/
theorem Hole.dict (h : Hole K Z H v S w (.dk kvs0) T put) : ∃ a xs T1, w = .ref a ∧ H a = some (.dK xs) ∧ T a ∧ ROk K Z H xs kvs0 T1 ∧ (∀ x, T1 x → T x) ∧ ¬ T1 a ∧
    ∀ (ys : List (Key × V)) (os' : List (Key × O)) (B : AS), Tx K H (upd H a (.dK ys)) → ROk K Z H ys os' B → (∀ x, B x → T1 x ∨ ¬ S x) → RO K Z (upd H a (.dK ys)) v (put (.dk os')) (fun x => (S x ∧ ¬ T x) ∨ x = a ∨ B x) := by
  have r := h.ro
  cases r with
  | dk g1 g2 g3 g4 g5 =>
    rename_i a xs T1
    refine ⟨a, xs, T1, rfl, g1, g2, g3, g4, g5, fun ys os' B tx r hB => ?_⟩
    have nB : ¬ B a := fun z => (hB a z).elim g5 fun y => y (h.sub a g2)
    have r2 : ROk K Z (upd H a (.dK ys)) ys os' B := ROk.stay (Ex.refl _) tx r fun x u z y => by
      rw [upd_ne fun k => nB (by rw [← k]; exact z)]
      exact y
    have r3 : RO K Z (upd H a (.dK ys)) (.ref a) (.dk os') (fun x => x = a ∨ B x) := .dk upd_same (.inl rfl) r2 (fun _ => .inr) nB
    refine h.plug Z _ _ _ (Ex.refl _) tx (fun x u z y k => ?_) r3 fun x z => ?_
    · rw [upd_ne fun q => y (by rw [q]; exact g2)]
      exact k
    · rcases z with z | z
      · exact .inl (by rw [z]; exact g2)
      · exact (hB x z).imp (g4 x) id
theorem Hole.dicT (h : Hole K Z H v S w (.dt kts0) T put) : ∃ a xs T1, w = .ref a ∧ H a = some (.dT xs) ∧ T a ∧ ROt K Z H xs kts0 T1 ∧ (∀ x, T1 x → T x) ∧ ¬ T1 a ∧
    ∀ (ys : List (List Key × V)) (os' : List (List Key × O)) (B : AS), Tx K H (upd H a (.dT ys)) → ROt K Z H ys os' B → (∀ x, B x → T1 x ∨ ¬ S x) → RO K Z (upd H a (.dT ys)) v (put (.dt os')) (fun x => (S x ∧ ¬ T x) ∨ x = a ∨ B x) := by
  have r := h.ro
  cases r with
  | dt g1 g2 g3 g4 g5 =>
    rename_i a xs T1
    refine ⟨a, xs, T1, rfl, g1, g2, g3, g4, g5, fun ys os' B tx r hB => ?_⟩
    have nB : ¬ B a := fun z => (hB a z).elim g5 fun y => y (h.sub a g2)
    have r2 : ROt K Z (upd H a (.dT ys)) ys os' B := ROt.stay (Ex.refl _) tx r fun x u z y => by
      rw [upd_ne fun k => nB (by rw [← k]; exact z)]
      exact y
    have r3 : RO K Z (upd H a (.dT ys)) (.ref a) (.dt os') (fun x => x = a ∨ B x) := .dt upd_same (.inl rfl) r2 (fun _ => .inr) nB
    refine h.plug Z _ _ _ (Ex.refl _) tx (fun x u z y k => ?_) r3 fun x z => ?_
    · rw [upd_ne fun q => y (by rw [q]; exact g2)]
      exact k
    · rcases z with z | z
      · exact .inl (by rw [z]; exact g2)
      · exact (hB x z).imp (g4 x) id
theorem ROs.app (h : ROs K Z H xs os A) (r : ROs K Z H ys ps B) (d : ∀ x, A x → ¬ B x) : ROs K Z H (xs ++ ys) (os ++ ps) (Sor A B) := by
  induction os generalizing xs A with
  | nil => cases h; exact r.up fun _ => .inr
  | cons o1 os ih =>
    cases h with
    | cons h1 h2 b c d2 =>
      refine .cons h1 (ih h2 fun x q => d x (c x q)) (fun x q => .inl (b x q)) (fun x q => q.elim (fun z => .inl (c x z)) .inr) fun x q z => ?_
      rcases z with z | z
      · exact d2 x q z
      · exact d x (b x q) z
theorem ROs.split (h : ROs K Z H xs (os ++ ps) S) : ∃ xs1 xs2 A B, xs = xs1 ++ xs2 ∧ ROs K Z H xs1 os A ∧ ROs K Z H xs2 ps B ∧ (∀ x, A x → S x) ∧ (∀ x, B x → S x) ∧ ∀ x, A x → ¬ B x := by
  induction os generalizing xs S with
  | nil => exact ⟨[], xs, fun _ => False, S, rfl, .nil, h, fun _ z => z.elim, fun _ z => z, fun _ z => z.elim⟩
  | cons o1 os ih =>
    cases h with
    | cons h1 h2 b c d =>
      rename_i v1 vs A1 A2
      obtain ⟨x1, x2, A, B, e, g1, g2, g3, g4, g5⟩ := ih h2
      refine ⟨v1 :: x1, x2, Sor A1 A, B, by rw [e]; rfl, .cons h1 g1 (fun _ => .inl) (fun _ => .inr) fun x z y => d x z (g3 x y), g2, fun x z => z.elim (b x) fun y => c x (g3 x y), fun x z => c x (g4 x z), fun x z y => ?_⟩
      rcases z with z | z
      · exact d x z (g4 x y)
      · exact g5 x z y
theorem ROs.rev (h : ROs K Z H xs os S) : ROs K Z H xs.reverse os.reverse S := by
  induction os generalizing xs S with
  | nil => cases h; exact .nil
  | cons o1 os ih =>
    cases h with
    | cons h1 h2 b c d =>
      rw [List.reverse_cons, List.reverse_cons]
      exact ((ih h2).app (.cons (S2 := fun _ => False) h1 .nil (fun _ z => z) (fun _ z => z.elim) fun _ _ z => z) fun x z y => d x y z).up fun x z => z.elim (c x) (b x)
theorem Wd.ex (w : Wd S Z H) (x : Ex H H1) : Wd S Z H1 := ⟨fun a u z => x a u (w.zh a u z), fun a z => ⟨(w.own a z).1, by
  have m := (w.own a z).2
  cases r : H a with
  | none => rw [r] at m; exact m.elim
  | some o => rw [x a o r]; rw [r] at m; exact m⟩⟩
theorem Gr.ex (x : Ex H H1) : Gr S Z H S Z H1 := ⟨Ex.refl _, fun a o y _ => x a o y, fun a z => z.elim .inl fun y => .inr (.inr y)⟩
end

section
variable {c : CT} {F : Fns} {cl : Str → Value} {k : Nat} {W : WX} {X : Cx} {σ σ' : L2.St} {S S1 S2 Sv Sv1 Sv2 T B : AS} {Z H Z1 H1 Z2 H2 : Hp} {e e1 e2 : Env} {a b : E} {x : Str} {K : PySem.W.Frag} {q t : Bool} {R : Hp → Hp → AS → AS → Prop}
theorem calm_ok {α β : Type} {rep : β → α → Hp → Hp → AS → AS → Prop} {γ : Type} {r : Rs γ} {f : γ → Env → Rs α} {Q : β → Hp → Prop} (h : RSpec X W cl rep q t σ S Z H (r.calm.bind f) Q) : ∃ a e', r = .ok a e' ∧ RSpec X W cl rep q t σ S Z H (f a e') Q := by
  cases r with
  | ok a e' => exact ⟨a, e', rfl, h⟩
  | ex c e' => exact False.elim h
  | no => exact False.elim h
/-! ### paths -/
def GoodP (F : Fns) (cl : Str → Value) (p : Pa) : Prop := ∀ (X : Cx) (W : WX) (c : CT) (k : Nat) (ast : Expr), XOk c F cl k W X → chkP c p ast = true → ∀ (σ : L2.St) (S : AS) (Z H : Hp) (e : Env), Wd S Z H → RE X.K Z H σ e S →
  ∀ (i : Nat) (o : O) (put : O → O), getP F p e = some (i, o, put) → ∀ Q : VK, (∀ H' v w S1 S2 T, Ex H H' → σ[i]? = some (some v) → Hole X.K Z H' v S1 w o T put → (∀ x, S1 x → S x) → (∀ x, S2 x → S x) → (∀ x, S1 x → ¬ S2 x) → RE X.K Z H' σ (e.set i none) S2 → Q w H') → wE X ast σ H Q
theorem goodP_nm {i : Nat} : GoodP F cl (.nm i) := by
  intro X W c k ast ok hc σ S Z H e wd re j o put hp Q h
  unfold chkP at hc
  split at hc
  · rename_i x pos
    unfold getP at hp
    split at hp
    · rename_i o' he
      cases hp
      obtain ⟨v, S1, S2, h1, h2, h3, h4, h5, h6⟩ := re.at he
      exact wE_of (ok.name hc) ⟨v, h1, h H v v S1 S2 S1 (Ex.refl _) h1 (.root h2) h3 h4 h5 h6⟩
    · cases hp
  · cases hc
theorem atI_of {α : Type} {xs : List α} {i : Int} {n : Nat} {x : α} (h : ixN xs.length i = some n) (g : xs[n]? = some x) : atI xs i = some x := by
  unfold atI
  rw [h]
  exact g
theorem goodP_ix {p : Pa} {a : E} (hp : GoodP F cl p) (ha : GoodE F cl a) : GoodP F cl (.ix p a) := by
  intro X W c k ast ok hc σ S Z H e wd re j o put hq Q h
  unfold chkP at hc
  split at hc
  · rename_i x y pos
    simp only [Bool.and_eq_true] at hc
    unfold getP at hq
    split at hq
    · rename_i hqt
      split at hq
      · rename_i i0 o0 put0 hp0
        split at hq
        · rename_i n e2 hk
          refine wE_ix (plain_ix hc.2) (hp X W c k x ok hc.1.1 σ S Z H e wd re i0 o0 put0 hp0 _ fun H1 v w S1 S2 T x1 h1 hole s1 s2 d12 re1 => ?_)
          have wd1 := wd.ex x1
          refine ha false X W c k y ok hc.1.2 σ S Z H1 e wd1 (re.stay (Ex.refl _) x1.tx fun a u _ z => x1 a u z) _ ?_
          rw [hk]
          intro u Z2 H2 S2' Sv2 p2
          cases (show RO _ _ _ _ _ _ from p2.ro).int
          obtain ⟨x2, ez, ss⟩ := p2.quiet hqt
          subst ez
          have hole2 := hole.stay (Ex.refl _) x2.tx fun a u _ z => x2 a u z
          have re2 := re1.stay (Ex.refl _) x2.tx fun a u _ z => x2 a u z
          split at hq
          · rename_i os
            split at hq
            · rename_i n' hn
              split at hq
              · rename_i o1 ho
                cases hq
                obtain ⟨a, xs, w', T', g1, g2, g3, g4, g5⟩ := hole2.lst ho
                subst g1
                refine ixV_of ix_seq (.inl ⟨_, _, _, _, rfl, rfl, .inl (.inl g2), atI_of (by rw [g3]; exact hn) g4, ?_⟩)
                exact h H2 v w' S1 S2 T' (x1.trans x2) h1 g5 s1 s2 d12 re2
              · cases hq
            · cases hq
          · rename_i os
            split at hq
            · rename_i n' hn
              split at hq
              · rename_i o1 ho
                cases hq
                obtain ⟨a, xs, w', T', g1, g2, g3, g4, g5⟩ := hole2.tup ho
                subst g1
                refine ixV_of ix_seq (.inr (.inl ⟨_, _, _, _, rfl, rfl, g2.sq, atI_of (by rw [g3]; exact hn) g4, ?_⟩))
                exact h H2 v w' S1 S2 T' (x1.trans x2) h1 g5 s1 s2 d12 re2
              · cases hq
            · cases hq
          · rename_i kvs
            split at hq
            · rename_i o1 ho
              cases hq
              obtain ⟨a, xs, w', T', g1, g2, g3, g5⟩ := hole2.dk ho
              subst g1
              exact ixV_dict (by have := ok.hu; omega) (.inl ⟨_, .inl _, .inl g2, rfl, by rw [valV_get1, g3]⟩) (h H2 v w' S1 S2 T' (x1.trans x2) h1 g5 s1 s2 d12 re2)
            · cases hq
          · cases hq
        · rename_i n e2 hk
          refine wE_ix (plain_ix hc.2) (hp X W c k x ok hc.1.1 σ S Z H e wd re i0 o0 put0 hp0 _ fun H1 v w S1 S2 T x1 h1 hole s1 s2 d12 re1 => ?_)
          have wd1 := wd.ex x1
          refine ha false X W c k y ok hc.1.2 σ S Z H1 e wd1 (re.stay (Ex.refl _) x1.tx fun a u _ z => x1 a u z) _ ?_
          rw [hk]
          intro u Z2 H2 S2' Sv2 p2
          cases (show RO _ _ _ _ _ _ from p2.ro).str
          obtain ⟨x2, ez, ss⟩ := p2.quiet hqt
          subst ez
          have hole2 := hole.stay (Ex.refl _) x2.tx fun a u _ z => x2 a u z
          have re2 := re1.stay (Ex.refl _) x2.tx fun a u _ z => x2 a u z
          split at hq
          · rename_i kvs
            split at hq
            · rename_i o1 ho
              cases hq
              obtain ⟨a, xs, w', T', g1, g2, g3, g5⟩ := hole2.dk ho
              subst g1
              exact ixV_dict (by have := ok.hu; omega) (.inl ⟨_, .inr _, .inl g2, rfl, by rw [valV_get1, g3]⟩) (h H2 v w' S1 S2 T' (x1.trans x2) h1 g5 s1 s2 d12 re2)
            · cases hq
          · cases hq
        · cases hq
      · cases hq
    · cases hq
  · cases hc
/-- the state when a place is written: S1 the slot's tree, S2 the other slots', Sv what is new -/
structure Wr (K : PySem.W.Frag) (σ : L2.St) (S : AS) (Z H : Hp) (i : Nat) (e2 : Env) (S1 S2 Sv : AS) (v w : V) (o : O) (T : AS) (put : O → O) (Z2 H2 : Hp) : Prop where
  wd : Wd (Sor S2 (Sor S1 Sv)) Z2 H2
  gr : Gr S Z H (Sor S2 (Sor S1 Sv)) Z2 H2
  re : RE K Z2 H2 σ e2 S2
  at_ : σ[i]? = some (some v)
  d12 : ∀ x, S1 x → ¬ S2 x
  d1v : ∀ x, S1 x → ¬ Sv x
  d2v : ∀ x, S2 x → ¬ Sv x
  hole : Hole K Z2 H2 v S1 w o T put
/-- a list's cell written: the new state -/
theorem Wr.done {i : Nat} {v w : V} {os : List O} {put : O → O} (h : Wr K σ S Z H i e2 S1 S2 Sv v w (.lst os) T put Z2 H2) : ∃ a xs T1, w = .ref a ∧ H2 a = some (.lst xs) ∧ ROs K Z2 H2 xs os T1 ∧ (∀ x, T1 x → S1 x) ∧
    ∀ (ys : List V) (os' : List O) (B Br : AS) (rv : V) (r : O), ROs K Z2 H2 ys os' B → RO K Z2 H2 rv r Br → (∀ x, B x → T1 x ∨ Sv x) → (∀ x, Br x → T1 x) → (∀ x, B x → ¬ Br x) →
      ∃ S', PR K false true σ S Z H (e2.set i (some (put (.lst os')))) (repO K rv r) Z2 (upd H2 a (.lst ys)) S' Br := by
  obtain ⟨a, xs, T1, g1, g2, g3, g4, g5, g6, g7⟩ := h.hole.list
  have sa : S1 a := h.hole.sub a g3
  have s1 : ∀ x, T1 x → S1 x := fun x z => h.hole.sub x (g5 x z)
  refine ⟨a, xs, T1, g1, g2, g4, s1, fun ys os' B Br rv r rB rr hB hBr dB => ?_⟩
  have hU : Sor S2 (Sor S1 Sv) a := .inr (.inl sa)
  have wput : Wd (Sor S2 (Sor S1 Sv)) Z2 (upd H2 a (.lst ys)) := h.wd.put hU True.intro
  have gput : Gr (Sor S2 (Sor S1 Sv)) Z2 H2 (Sor S2 (Sor S1 Sv)) Z2 (upd H2 a (.lst ys)) := Gr.put hU
  have tx : Tx K H2 (upd H2 a (.lst ys)) := gput.tx h.wd
  have ne : ∀ {A : AS}, ¬ A a → ∀ x u, A x → H2 x = some u → upd H2 a (.lst ys) x = some u := fun {A} n x u z y => by
    rw [upd_ne fun k => n (by rw [← k]; exact z)]
    exact y
  have rv' := g7 ys os' B tx rB fun x z => (hB x z).imp id fun y k => h.d1v x k y
  have re' := h.re.stay (Ex.refl _) tx (ne (h.d12 a sa))
  have dj : ∀ x, ((S1 x ∧ ¬ T x) ∨ x = a ∨ B x) → ¬ S2 x := fun x z y => by
    rcases z with z | z | z
    · exact h.d12 x z.1 y
    · exact h.d12 a sa (by rw [← z]; exact y)
    · rcases hB x z with k | k
      · exact h.d12 x (s1 x k) y
      · exact h.d2v x y k
  have re3 := re'.put h.at_ rv' dj
  have sU : ∀ x, Sor (fun x => (S1 x ∧ ¬ T x) ∨ x = a ∨ B x) S2 x → Sor S2 (Sor S1 Sv) x := fun x z => by
    rcases z with (z | z | z) | z
    · exact .inr (.inl z.1)
    · exact .inr (.inl (by rw [z]; exact sa))
    · exact .inr ((hB x z).imp (s1 x) id)
    · exact .inl z
  have bU : ∀ x, Br x → Sor S2 (Sor S1 Sv) x := fun x z => .inr (.inl (s1 x (hBr x z)))
  have g := h.gr.trans h.wd gput
  refine ⟨_, ⟨wput.sub sU, g.subR sU, re3, RO.stay (Ex.refl _) tx rr (ne fun z => g6 (hBr a z)), fun _ => ⟨fun x z y => ?_, wput.sub bU, g.subR fun x z => z.elim (sU x) (bU x)⟩, (fun z => nomatch z), fun z => nomatch z⟩⟩
  have yT := hBr x y
  rcases z with (z | z | z) | z
  · exact z.2 (g5 x yT)
  · exact g6 (by rw [← z]; exact yT)
  · exact dB x z y
  · exact h.d12 x (s1 x yT) z
/-- a dict's -/
theorem Wr.doneK {i : Nat} {v w : V} {os : List (Key × O)} {put : O → O} (h : Wr K σ S Z H i e2 S1 S2 Sv v w (.dk os) T put Z2 H2) : ∃ a xs T1, w = .ref a ∧ H2 a = some (.dK xs) ∧ ROk K Z2 H2 xs os T1 ∧ (∀ x, T1 x → S1 x) ∧
    ∀ (ys : List (Key × V)) (os' : List (Key × O)) (B Br : AS) (rv : V) (r : O), ROk K Z2 H2 ys os' B → RO K Z2 H2 rv r Br → (∀ x, B x → T1 x ∨ Sv x) → (∀ x, Br x → T1 x) → (∀ x, B x → ¬ Br x) →
      ∃ S', PR K false true σ S Z H (e2.set i (some (put (.dk os')))) (repO K rv r) Z2 (upd H2 a (.dK ys)) S' Br := by
  obtain ⟨a, xs, T1, g1, g2, g3, g4, g5, g6, g7⟩ := h.hole.dict
  have sa : S1 a := h.hole.sub a g3
  have s1 : ∀ x, T1 x → S1 x := fun x z => h.hole.sub x (g5 x z)
  refine ⟨a, xs, T1, g1, g2, g4, s1, fun ys os' B Br rv r rB rr hB hBr dB => ?_⟩
  have hU : Sor S2 (Sor S1 Sv) a := .inr (.inl sa)
  have wput : Wd (Sor S2 (Sor S1 Sv)) Z2 (upd H2 a (.dK ys)) := h.wd.put hU True.intro
  have gput : Gr (Sor S2 (Sor S1 Sv)) Z2 H2 (Sor S2 (Sor S1 Sv)) Z2 (upd H2 a (.dK ys)) := Gr.put hU
  have tx : Tx K H2 (upd H2 a (.dK ys)) := gput.tx h.wd
  have ne : ∀ {A : AS}, ¬ A a → ∀ x u, A x → H2 x = some u → upd H2 a (.dK ys) x = some u := fun {A} n x u z y => by
    rw [upd_ne fun k => n (by rw [← k]; exact z)]
    exact y
  have rv' := g7 ys os' B tx rB fun x z => (hB x z).imp id fun y k => h.d1v x k y
  have re' := h.re.stay (Ex.refl _) tx (ne (h.d12 a sa))
  have dj : ∀ x, ((S1 x ∧ ¬ T x) ∨ x = a ∨ B x) → ¬ S2 x := fun x z y => by
    rcases z with z | z | z
    · exact h.d12 x z.1 y
    · exact h.d12 a sa (by rw [← z]; exact y)
    · rcases hB x z with k | k
      · exact h.d12 x (s1 x k) y
      · exact h.d2v x y k
  have re3 := re'.put h.at_ rv' dj
  have sU : ∀ x, Sor (fun x => (S1 x ∧ ¬ T x) ∨ x = a ∨ B x) S2 x → Sor S2 (Sor S1 Sv) x := fun x z => by
    rcases z with (z | z | z) | z
    · exact .inr (.inl z.1)
    · exact .inr (.inl (by rw [z]; exact sa))
    · exact .inr ((hB x z).imp (s1 x) id)
    · exact .inl z
  have bU : ∀ x, Br x → Sor S2 (Sor S1 Sv) x := fun x z => .inr (.inl (s1 x (hBr x z)))
  have g := h.gr.trans h.wd gput
  refine ⟨_, ⟨wput.sub sU, g.subR sU, re3, RO.stay (Ex.refl _) tx rr (ne fun z => g6 (hBr a z)), fun _ => ⟨fun x z y => ?_, wput.sub bU, g.subR fun x z => z.elim (sU x) (bU x)⟩, (fun z => nomatch z), fun z => nomatch z⟩⟩
  have yT := hBr x y
  rcases z with (z | z | z) | z
  · exact z.2 (g5 x yT)
  · exact g6 (by rw [← z]; exact yT)
  · exact dB x z y
  · exact h.d12 x (s1 x yT) z
/-- a dict's -/
theorem Wr.doneT {i : Nat} {v w : V} {os : List (List Key × O)} {put : O → O} (h : Wr K σ S Z H i e2 S1 S2 Sv v w (.dt os) T put Z2 H2) : ∃ a xs T1, w = .ref a ∧ H2 a = some (.dT xs) ∧ ROt K Z2 H2 xs os T1 ∧ (∀ x, T1 x → S1 x) ∧
    ∀ (ys : List (List Key × V)) (os' : List (List Key × O)) (B Br : AS) (rv : V) (r : O), ROt K Z2 H2 ys os' B → RO K Z2 H2 rv r Br → (∀ x, B x → T1 x ∨ Sv x) → (∀ x, Br x → T1 x) → (∀ x, B x → ¬ Br x) →
      ∃ S', PR K false true σ S Z H (e2.set i (some (put (.dt os')))) (repO K rv r) Z2 (upd H2 a (.dT ys)) S' Br := by
  obtain ⟨a, xs, T1, g1, g2, g3, g4, g5, g6, g7⟩ := h.hole.dicT
  have sa : S1 a := h.hole.sub a g3
  have s1 : ∀ x, T1 x → S1 x := fun x z => h.hole.sub x (g5 x z)
  refine ⟨a, xs, T1, g1, g2, g4, s1, fun ys os' B Br rv r rB rr hB hBr dB => ?_⟩
  have hU : Sor S2 (Sor S1 Sv) a := .inr (.inl sa)
  have wput : Wd (Sor S2 (Sor S1 Sv)) Z2 (upd H2 a (.dT ys)) := h.wd.put hU True.intro
  have gput : Gr (Sor S2 (Sor S1 Sv)) Z2 H2 (Sor S2 (Sor S1 Sv)) Z2 (upd H2 a (.dT ys)) := Gr.put hU
  have tx : Tx K H2 (upd H2 a (.dT ys)) := gput.tx h.wd
  have ne : ∀ {A : AS}, ¬ A a → ∀ x u, A x → H2 x = some u → upd H2 a (.dT ys) x = some u := fun {A} n x u z y => by
    rw [upd_ne fun k => n (by rw [← k]; exact z)]
    exact y
  have rv' := g7 ys os' B tx rB fun x z => (hB x z).imp id fun y k => h.d1v x k y
  have re' := h.re.stay (Ex.refl _) tx (ne (h.d12 a sa))
  have dj : ∀ x, ((S1 x ∧ ¬ T x) ∨ x = a ∨ B x) → ¬ S2 x := fun x z y => by
    rcases z with z | z | z
    · exact h.d12 x z.1 y
    · exact h.d12 a sa (by rw [← z]; exact y)
    · rcases hB x z with k | k
      · exact h.d12 x (s1 x k) y
      · exact h.d2v x y k
  have re3 := re'.put h.at_ rv' dj
  have sU : ∀ x, Sor (fun x => (S1 x ∧ ¬ T x) ∨ x = a ∨ B x) S2 x → Sor S2 (Sor S1 Sv) x := fun x z => by
    rcases z with (z | z | z) | z
    · exact .inr (.inl z.1)
    · exact .inr (.inl (by rw [z]; exact sa))
    · exact .inr ((hB x z).imp (s1 x) id)
    · exact .inl z
  have bU : ∀ x, Br x → Sor S2 (Sor S1 Sv) x := fun x z => .inr (.inl (s1 x (hBr x z)))
  have g := h.gr.trans h.wd gput
  refine ⟨_, ⟨wput.sub sU, g.subR sU, re3, RO.stay (Ex.refl _) tx rr (ne fun z => g6 (hBr a z)), fun _ => ⟨fun x z y => ?_, wput.sub bU, g.subR fun x z => z.elim (sU x) (bU x)⟩, (fun z => nomatch z), fun z => nomatch z⟩⟩
  have yT := hBr x y
  rcases z with (z | z | z) | z
  · exact z.2 (g5 x yT)
  · exact g6 (by rw [← z]; exact yT)
  · exact dB x z y
  · exact h.d12 x (s1 x yT) z
/-- the slot's tree apart, then something is evaluated without it -/
theorem Wr.apart {i : Nat} {v w : V} {o : O} {put : O → O} {R2 : Hp → Hp → AS → AS → Prop} (wd : Wd S Z H) (x1 : Ex H H1) (h1 : σ[i]? = some (some v)) (hole : Hole K Z H1 v S1 w o T put) (s1 : ∀ x, S1 x → S x) (s2 : ∀ x, S2 x → S x) (d12 : ∀ x, S1 x → ¬ S2 x)
    {S2' : AS} (p2 : PR K q true σ S2 Z H1 e2 R2 Z2 H2 S2' Sv) : Wr K σ S Z H i e2 S1 S2' Sv v w o T put Z2 H2 := by
  have wd1 := wd.ex x1
  obtain ⟨b1, b2, b3⟩ := p2.apart rfl
  have nn : ∀ a, S1 a → ¬ (S2 a ∨ H1 a = none ∨ Z a ≠ none) := fun a q z => by
    rcases z with z | z | z
    · exact d12 a q z
    · exact not_own_none wd1 (s1 a q) z
    · exact z (wd1.own a (s1 a q)).1
  have kp : ∀ a u, S1 a → H1 a = some u → H2 a = some u := fun a u z y => p2.gr.keep a u y (d12 a z)
  have w1 : Wd S1 Z2 H2 := ⟨b2.zh, fun a z => ⟨by
      cases r : Z2 a with
      | none => rfl
      | some o => exact absurd (b3.new a (.inr (by rw [r]; simp))) (nn a z), by
      have m := (wd1.own a (s1 a z)).2
      cases r : H1 a with
      | none => rw [r] at m; exact m.elim
      | some o => rw [kp a o z r]; rw [r] at m; exact m⟩⟩
  refine ⟨p2.wd.or (w1.or b2), ⟨b3.z, fun a u z y => b3.keep a u (x1 a u z) fun k => y (s2 a k), fun a z => ?_⟩, p2.re, h1, fun a z y => nn a z (b3.new a (.inl (.inl y))), fun a z y => nn a z (b3.new a (.inl (.inr y))), b1, hole.stay p2.gr.z (p2.gr.tx (wd1.sub s2)) kp⟩
  have old : ∀ a, (S2 a ∨ H1 a = none ∨ Z a ≠ none) → S a ∨ H a = none ∨ Z a ≠ none := fun a y => by
    rcases y with y | y | y
    · exact .inl (s2 a y)
    · cases r : H a with
      | none => exact .inr (.inl rfl)
      | some u => rw [x1 a u r] at y; cases y
    · exact .inr (.inr y)
  rcases z with (z | z | z) | z
  · exact old a (b3.new a (.inl (.inl z)))
  · exact .inl (s1 a z)
  · exact old a (b3.new a (.inl (.inr z)))
  · exact old a (b3.new a (.inr z))
/-- .. or quietly, with it in view -/
theorem Wr.quiet {i : Nat} {v w : V} {o : O} {put : O → O} {R2 : Hp → Hp → AS → AS → Prop} (wd : Wd S Z H) (x1 : Ex H H1) (h1 : σ[i]? = some (some v)) (hole : Hole K Z H1 v S1 w o T put) (s1 : ∀ x, S1 x → S x) (s2 : ∀ x, S2 x → S x) (d12 : ∀ x, S1 x → ¬ S2 x) (re1 : RE K Z H1 σ e1 S2)
    {S2' : AS} (hq : q = true) (p2 : PR K q true σ S Z H1 e2 R2 Z2 H2 S2' Sv) : Wr K σ S Z H i e1 S1 S2 Sv v w o T put Z2 H2 := by
  obtain ⟨b1, b2, b3⟩ := p2.apart rfl
  obtain ⟨x2, ez, ss⟩ := p2.quiet hq
  subst ez
  have all : ∀ x, Sor S2 (Sor S1 Sv) x → Sor S2' Sv x := fun x z => by
    rcases z with z | z | z
    · exact .inl (ss x (s2 x z))
    · exact .inl (ss x (s1 x z))
    · exact .inr z
  have g : Gr S Z2 H (Sor S2' Sv) Z2 H2 := (Gr.ex x1).trans (wd.ex x1) b3
  exact ⟨(p2.wd.or b2).sub all, g.subR all, re1.stay (Ex.refl _) x2.tx fun a u _ z => x2 a u z, h1, d12, fun x z y => b1 x (ss x (s1 x z)) y, fun x z y => b1 x (ss x (s2 x z)) y, hole.stay (Ex.refl _) x2.tx fun a u _ z => x2 a u z⟩
end
end Rim
namespace Rim
open PySem PySem.Spec PyProof.Rows L2

/-! ### methods that write a list -/
def rMV (X : Cx) (id : String) : V → List V → Hp → VK → Prop := fun x xs H Q => ∀ σ pins s v us, Inv X pins σ H s → RelV x v → Vals xs us → wpAny (model X.prog X.w) X.A (call (.builtin id) (v :: us)) (EP X pins σ Q) X.xe s
theorem mt_rMV {X : Cx} {id : String} : MtR X id (rMV X id) := fun pins s σ H x xs v us Q I r rs h => h σ pins s v us I r rs
theorem rMV_of {X : Cx} {id : String} {r : V → List V → Hp → VK → Prop} (h : MtR X id r) {x : V} {xs : List V} {H : Hp} {Q : VK} (q : r x xs H Q) : rMV X id x xs H Q := fun σ pins s v us I rx rxs => h pins s σ H x xs v us Q I rx rxs q
def mtId : Mt → String
  | .append => "list.append" | .pop => "list.pop" | .popAt => "list.pop" | .insert => "list.insert" | .reverse => "list.reverse" | .clear => "list.clear" | .extend => "list.extend"
theorem mt_slot : ∀ m : Mt, Slot "list" (mtN m) (mtId m)
  | .append => PySem.F.slot_list_append
  | .pop => PySem.F.slot_list_pop
  | .popAt => PySem.F.slot_list_pop
  | .insert => PySem.F.slot_list_insert
  | .reverse => PySem.F.slot_list_reverse
  | .clear => PySem.F.slot_list_clear
  | .extend => PySem.F.slot_list_extend
theorem mt_type : ∀ m : Mt, typeOf (.builtin (mtId m)) = pure (.type "method_descriptor")
  | .append => PySem.F.type_list_append
  | .pop => PySem.F.type_list_pop
  | .popAt => PySem.F.type_list_pop
  | .insert => PySem.F.type_list_insert
  | .reverse => PySem.F.type_list_reverse
  | .clear => PySem.F.type_list_clear
  | .extend => PySem.F.type_list_extend
section
variable {c : CT} {F : Fns} {cl : Str → Value} {k : Nat} {W : WX} {X : Cx} {σ σ' : L2.St} {S S1 S2 Sv Sv1 Sv2 T B : AS} {Z H Z1 H1 Z2 H2 : Hp} {e e1 e2 : Env} {a b : E} {x : Str} {K : PySem.W.Frag} {q t : Bool}
theorem ROs.one {vs : List V} {o : O} (h : ROs K Z H vs [o] S) : ∃ v, vs = [v] ∧ RO K Z H v o S := by
  cases h with
  | cons h1 h2 b c d =>
    cases h2
    exact ⟨_, rfl, h1.up b⟩
theorem ROs.two {vs : List V} {o o' : O} (h : ROs K Z H vs [o, o'] S) : ∃ v v' A B, vs = [v, v'] ∧ RO K Z H v o A ∧ RO K Z H v' o' B ∧ (∀ x, A x → S x) ∧ (∀ x, B x → S x) ∧ ∀ x, A x → ¬ B x := by
  cases h with
  | cons h1 h2 b c d =>
    obtain ⟨v', e, r⟩ := h2.one
    subst e
    exact ⟨_, _, _, _, rfl, h1, r, b, c, d⟩
theorem ROs.zero {vs : List V} (h : ROs K Z H vs [] S) : vs = [] := by
  cases h
  rfl
theorem ROs.solo {v : V} {o : O} (h : RO K Z H v o S) : ROs K Z H [v] [o] S := .cons (S2 := fun _ => False) h .nil (fun _ z => z) (fun _ z => z.elim) fun _ _ z => z
theorem take_erase {α : Type} (xs : List α) {j : Nat} {x : α} (h : xs[j]? = some x) : xs = xs.take j ++ ([x] ++ xs.drop (j + 1)) := by
  have hl : j < xs.length := by
    rcases Nat.lt_or_ge j xs.length with z | z
    · exact z
    · rw [List.getElem?_eq_none z] at h; cases h
  rw [List.getElem?_eq_getElem hl] at h
  have e := Option.some.inj h
  rw [← e]
  simp
theorem erase_take {α : Type} (xs : List α) (j : Nat) : xs.eraseIdx j = xs.take j ++ xs.drop (j + 1) := List.eraseIdx_eq_take_drop_succ xs j
theorem getLast_split {α : Type} {xs : List α} {x : α} (h : xs.getLast? = some x) : xs = xs.dropLast ++ [x] := by
  obtain ⟨ys, e⟩ := List.getLast?_eq_some_iff.mp h
  subst e
  simp
/-- a method's call at a written place -/
theorem mut_ok {m : Mt} {i : Nat} {v w : V} {os os' as : List O} {r : O} {vs : List V} {put : O → O} (h : Wr X.K σ S Z H i e2 S1 S2 Sv v w (.lst os) T put Z2 H2) (hm : mutO m os as = some (os', r)) (rv : ROs X.K Z2 H2 vs as Sv) {Q : VK}
    (kq : ∀ S' rv H3 Br, PR X.K false true σ S Z H (e2.set i (some (put (.lst os')))) (repO X.K rv r) Z2 H3 S' Br → Q rv H3) : rMV X (mtId m) w vs H2 Q := by
  obtain ⟨a, xs, T1, g1, g2, g3, g4, g5⟩ := h.done
  subst g1
  have dT : ∀ x, T1 x → ¬ Sv x := fun x z => h.d1v x (g4 x z)
  have len := ROs.length g3
  unfold mutO at hm
  split at hm
  · split at hm
    · rename_i x cd
      cases hm
      obtain ⟨v1, rfl, r1⟩ := rv.one
      have cd' : os.length < sizeLine := of_decide_eq_true cd
      obtain ⟨S', p⟩ := g5 (xs ++ [v1]) (os ++ [x]) (Sor T1 Sv) (fun _ => False) .non (.fz .none) (g3.app (ROs.solo r1) dT) (.fz .non) (fun _ z => z) (fun _ z => z.elim) (fun _ _ z => z)
      exact rMV_of mt_append ⟨a, xs, v1, rfl, rfl, g2, by rw [len]; exact cd', kq _ _ _ _ p⟩
    · cases hm
  · split at hm
    · rename_i x hl
      cases hm
      cases rv.zero
      have e := getLast_split hl
      rw [e] at g3
      obtain ⟨xs1, xs2, A, B, ex, r1, r2, s1, s2, d⟩ := g3.split
      obtain ⟨y, rfl, r3⟩ := r2.one
      obtain ⟨S', p⟩ := g5 xs1 os.dropLast A B y _ r1 r3 (fun z q => .inl (s1 z q)) s2 d
      refine rMV_of mt_pop ⟨a, xs, y, rfl, rfl, g2, by rw [ex]; simp, ?_⟩
      have e3 : xs.dropLast = xs1 := by rw [ex]; simp
      rw [e3]
      exact kq _ _ _ _ p
    · cases hm
  · split at hm
    · rename_i j cd
      split at hm
      · rename_i n hn
        split at hm
        · rename_i x hx
          cases hm
          obtain ⟨v1, rfl, r1⟩ := rv.one
          cases r1.int
          have cd' := Bool.and_eq_true_iff.mp cd
          have g3' := g3
          rw [take_erase os hx] at g3'
          obtain ⟨xs1, xs2', A, B', ex, r1, r2', s1, s2, d⟩ := g3'.split
          obtain ⟨xs2, xs3, B, C, ex2, r2, r3, s3, s4, d2⟩ := r2'.split
          obtain ⟨y, rfl, r4⟩ := r2.one
          have hn' : n < os.length := by
            rcases Nat.lt_or_ge n os.length with z | z
            · exact z
            · rw [List.getElem?_eq_none z] at hx; cases hx
          have l1 : xs1.length = n := by
            rw [ROs.length r1, List.length_take]
            omega
          obtain ⟨S', p⟩ := g5 (xs1 ++ xs3) (os.eraseIdx n) (Sor A C) B y _ (by rw [erase_take]; exact r1.app r3 fun x z q => d x z (s4 x q)) r4 (fun x z => .inl (z.elim (s1 x) fun q => s2 x (s4 x q))) (fun x z => s2 x (s3 x z)) fun x z q => z.elim (fun z => d x z (s3 x q)) fun z => d2 x q z
          refine rMV_of mt_popAt ⟨a, xs, j, n, y, rfl, rfl, g2, of_decide_eq_true cd'.1, of_decide_eq_true cd'.2, by rw [len]; exact hn, ?_, ?_⟩
          · rw [ex, ex2, ← l1]
            simp
          · have e3 : xs.eraseIdx n = xs1 ++ xs3 := by
              rw [ex, ex2, ← l1]
              simp [List.eraseIdx_append_of_length_le]
            rw [e3]
            exact kq _ _ _ _ p
        · cases hm
      · cases hm
    · cases hm
  · split at hm
    · rename_i j x cd
      cases hm
      obtain ⟨v1, v2, A, B, rfl, r1, r2, s1, s2, d⟩ := rv.two
      cases r1.int
      simp only [Bool.and_eq_true, decide_eq_true_eq] at cd
      have g3' := g3
      rw [← List.take_append_drop j.toNat os] at g3'
      obtain ⟨xs1, xs2, A', B', ex, r3, r4, s3, s4, d2⟩ := g3'.split
      have hl : xs1.length = min j.toNat os.length := by rw [ROs.length r3, List.length_take]
      have e1 : xs.take j.toNat = xs1 := by
        have lx : xs.length = os.length := len
        rw [ex] at lx ⊢
        rw [List.length_append] at lx
        by_cases hj : j.toNat ≤ os.length
        · have : j.toNat = xs1.length := by omega
          rw [this]; simp
        · have h2 : xs2.length = 0 := by omega
          have h3 := List.eq_nil_of_length_eq_zero h2
          rw [h3, List.append_nil, List.take_of_length_le]
          omega
      have e2 : xs.drop j.toNat = xs2 := by
        have z := List.take_append_drop j.toNat xs
        rw [e1] at z
        rw [ex] at z ⊢
        exact List.append_cancel_left z
      obtain ⟨S', p⟩ := g5 (xs1 ++ [v2] ++ xs2) (os.take j.toNat ++ [x] ++ os.drop j.toNat) (Sor (Sor A' B) B') (fun _ => False) .non (.fz .none)
        ((r3.app (ROs.solo r2) fun x z q => dT x (s3 x z) (s2 x q)).app r4 fun x z q => z.elim (fun z => d2 x z q) fun z => dT x (s4 x q) (s2 x z)) (.fz .non)
        (fun x z => z.elim (fun z => z.elim (fun z => .inl (s3 x z)) fun z => .inr (s2 x z)) fun z => .inl (s4 x z)) (fun _ z => z.elim) (fun _ _ z => z)
      refine rMV_of L2.mt_insert ⟨a, xs, j, v2, rfl, rfl, g2, by rw [len]; exact cd.2, cd.1.1, cd.1.2, ?_⟩
      rw [e1, e2]
      exact kq _ _ _ _ p
    · cases hm
  · cases hm
    cases rv.zero
    obtain ⟨S', p⟩ := g5 xs.reverse os.reverse T1 (fun _ => False) .non (.fz .none) g3.rev (.fz .non) (fun _ => .inl) (fun _ z => z.elim) (fun _ _ z => z)
    exact rMV_of mt_reverse ⟨a, xs, rfl, rfl, g2, kq _ _ _ _ p⟩
  · cases hm
    cases rv.zero
    obtain ⟨S', p⟩ := g5 [] [] T1 (fun _ => False) .non (.fz .none) .nil (.fz .non) (fun _ => .inl) (fun _ z => z.elim) (fun _ _ z => z)
    exact rMV_of mt_clear ⟨a, xs, rfl, rfl, g2, kq _ _ _ _ p⟩
  · split at hm
    · rename_i zs cd
      cases hm
      obtain ⟨v1, rfl, r1⟩ := rv.one
      cases r1 with
      | lst k1 k2 k3 k4 k5 =>
        rename_i b ys S'
        obtain ⟨S', p⟩ := g5 (xs ++ ys) (os ++ zs) (Sor T1 S') (fun _ => False) .non (.fz .none) (g3.app k3 fun x z q => dT x z (k4 x q)) (.fz .non) (fun x z => z.imp id (k4 x)) (fun _ z => z.elim) (fun _ _ z => z)
        exact rMV_of mt_extend ⟨a, b, xs, ys, rfl, rfl, g2, k1, by rw [len, ROs.length k3]; exact Nat.le_of_ble_eq_true cd, kq _ _ _ _ p⟩
    · cases hm
  · cases hm
theorem chks_plains : ∀ {as : Es} {xs : List Expr}, chks c as xs = true → plainsB xs = true
  | .nil, xs, h => by
    unfold chks at h
    split at h
    · rfl
    · cases h
  | .cons a r, xs, h => by
    unfold chks at h
    split at h
    · simp only [Bool.and_eq_true] at h
      have ih := chks_plains h.2
      unfold plainsB at ih ⊢
      rw [List.all_cons, h.1.2, ih]
      rfl
    · cases h
theorem good_mut {m : Mt} {p : Pa} {es : Es} (hp : GoodP F cl p) (hes : GoodEs F cl es) : GoodE F cl (.mut m p es) := by
  intro w0 X W c k ast ok hc σ S Z H e wd re Q h
  unfold chk at hc
  split at hc
  · rename_i x n ap xs cp
    simp only [Bool.and_eq_true] at hc
    obtain ⟨⟨⟨⟨⟨k1, k2⟩, k3⟩, k4⟩, k5⟩, k6⟩ := hc
    have en := of_decide_eq_true k1
    have el := of_decide_eq_true k6
    subst en
    unfold ev at h
    split at h
    · rename_i i os put hgp
      have fin : ∀ {e2 : Env} {os' : List O} {r : O}, RSpec X W cl (repO X.K) (qt (.mut m p es)) (!(w0 && pl (.mut m p es))) σ S Z H (.ok r (e2.set i (some (put (.lst os'))))) Q → ∀ S' rv Z2 H3 Br, PR X.K false true σ S Z H (e2.set i (some (put (.lst os')))) (repO X.K rv r) Z2 H3 S' Br → Q rv H3 := fun {e2 os' r} h S' rv Z2 H3 Br p => by
        refine h rv Z2 H3 S' Br ?_
        simpa [pl, qt] using p
      have key : ∀ H1 v w S1 S2 T, Ex H H1 → σ[i]? = some (some v) → Hole X.K Z H1 v S1 w (.lst os) T put → (∀ x, S1 x → S x) → (∀ x, S2 x → S x) → (∀ x, S1 x → ¬ S2 x) → RE X.K Z H1 σ (e.set i none) S2 → wA X xs σ H1 fun vs H2 => rMV X (mtId m) w vs H2 Q := by
        intro H1 v w S1 S2 T x1 h1 hole s1 s2 d12 re1
        have wd1 := wd.ex x1
        split at h
        · rename_i hq
          obtain ⟨as, e2, run, h2⟩ := calm_ok h
          refine hes X W c k xs ok k3 σ S Z H1 e wd1 (re.stay (Ex.refl _) x1.tx fun a u _ z => x1 a u z) _ ?_
          rw [run]
          intro vs Z2 H2 S2' Sv p2
          split at h2
          · rename_i os' r hm
            have wr := Wr.quiet wd x1 h1 hole s1 s2 d12 re1 hq p2
            have e3 : (e.set i none).set i (some (put (.lst os'))) = e.set i (some (put (.lst os'))) := List.set_set ..
            exact mut_ok wr hm p2.ro fun S' rv H3 Br pr => fin h2 S' rv Z2 H3 Br (by rw [e3] at pr; exact pr)
          · exact h2.elim
        · refine hes X W c k xs ok k3 σ S2 Z H1 (e.set i none) (wd1.sub s2) re1 _ (RSpec.bindAt (wd1.sub s2) ((Gr.ex x1).subR s2) (fun as e2 _ vs Z2 H2 S2' Sv p2 h2 => ?_) h)
          split at h2
          · rename_i os' r hm
            have wr := Wr.apart wd x1 h1 hole s1 s2 d12 p2
            exact mut_ok wr hm p2.ro fun S' rv H3 Br pr => fin h2 S' rv Z2 H3 Br pr
          · exact h2.elim
      have ty : ∀ {H1 v w S1 T}, Hole X.K Z H1 v S1 w (.lst os) T put → tyV X.K "list" w H1 := fun {H1 v w S1 T} hole => by
        obtain ⟨a, xs, T1, g1, g2, _⟩ := hole.list
        subst g1
        exact .inl ⟨rfl, xs, .inl (.inl g2)⟩
      cases xs with
      | nil =>
        refine wE_of (pe_bm0 PySem.F.plainAttrs_list (mt_slot m) (mt_type m) mt_rMV pe_wE (base_plain k5) k4) (hp X W c k x ok k2 σ S Z H e wd re i _ put hgp _ fun H1 v w S1 S2 T x1 h1 hole s1 s2 d12 re1 => ⟨ty hole, ?_⟩)
        have ees : es = .nil := by
          cases es with
          | nil => rfl
          | cons a r => simp [chks] at k3
        subst ees
        rw [if_pos (show qts .nil = true from rfl)] at h
        have h2 : RSpec X W cl (repO X.K) (qt (.mut m p .nil)) (!(w0 && pl (.mut m p .nil))) σ S Z H (match mutO m os [] with
          | some (os', r) => .ok r (e.set i (some (put (.lst os'))))
          | none => .no) Q := h
        split at h2
        · rename_i os' r hm
          have wr := Wr.quiet wd x1 h1 hole s1 s2 d12 re1 rfl (PR.here (K := X.K) (t := true) (σ := σ) (e := e) (wd.ex x1) (re.stay (Ex.refl _) x1.tx fun a u _ z => x1 a u z) (R := fun _ _ _ _ => True) True.intro)
          have e3 : (e.set i none).set i (some (put (.lst os'))) = e.set i (some (put (.lst os'))) := List.set_set ..
          exact mut_ok wr hm .nil fun S' rv H3 Br pr => fin h2 S' rv Z H3 Br (by rw [e3] at pr; exact pr)
        · exact h2.elim
      | cons y ys =>
        have pls := chks_plains k3
        have pls' : plainB y = true ∧ plainsB ys = true := by simpa [plainsB] using pls
        have few : ((backTo cp (starEach (y :: ys) X.env)).all (fun x => !x.1) && (backToKw cp (keywordEach [] X.env)).all (fun x => x.1.isSome)
            && decide ((y :: ys).length + ([] : List Keyword).length + (if ([] : List Keyword).isEmpty then 0 else 1) < 30)) = true := by
          cases ys with
          | nil => rw [plain_star pls'.1]; rfl
          | cons z zs =>
            cases zs with
            | nil =>
              have pz : plainB z = true := by simpa [plainsB] using pls'.2
              rw [plain_star pls'.1, plain_star pz]
              rfl
            | cons z2 zs =>
              have : mtL m ≤ 2 := by cases m <;> decide
              rw [← el] at this
              simp at this
        exact wE_of (pe_bm PySem.F.plainAttrs_list (mt_slot m) (mt_type m) mt_rMV pe_wE pa_wA (base_plain k5) few k4 (plain_star pls'.1) (nostars pls'.2)) (hp X W c k x ok k2 σ S Z H e wd re i _ put hgp _ fun H1 v w S1 S2 T x1 h1 hole s1 s2 d12 re1 => ⟨ty hole, key H1 v w S1 S2 T x1 h1 hole s1 s2 d12 re1⟩)
    · exact h.elim
  · cases hc
theorem set_same0 {α : Type} : ∀ {l : List α} {i : Nat} {x : α}, l[i]? = some x → l.set i x = l
  | [], _, _, h => by simp at h
  | a :: l, 0, x, h => by
    have : a = x := by simpa using h
    subst this
    rfl
  | a :: l, i + 1, x, h => by
    rw [List.set_cons_succ, set_same0 (by simpa using h)]
theorem get1_snoc {κ α : Type} [DecidableEq κ] {kk : κ} {v : α} : ∀ {L : List (κ × α)}, get1 L kk = none → get1 (L ++ [(kk, v)]) kk = some v
  | [], _ => by
    rw [List.nil_append]
    unfold get1
    rw [if_pos rfl]
  | (k', v') :: L, h => by
    unfold get1 at h
    rw [List.cons_append]
    unfold get1
    split at h
    · cases h
    · rename_i ne
      rw [if_neg ne]
      exact get1_snoc h
/-- d.setdefault(k, []).append(v) -/
theorem good_sdf {i : Nat} {kE vE : E} (hk : GoodE F cl kE) (hv : GoodE F cl vE) : GoodE F cl (.sdf i kE vE) := by
  intro w0 X W c k0 ast ok hc σ S Z H e wd re Q h
  unfold chk at hc
  split at hc
  · rename_i n np m1 ap1 kx lp cp1 m2 ap2 vx cp2
    simp only [Bool.and_eq_true] at hc
    obtain ⟨⟨⟨⟨⟨⟨⟨⟨c1, c2⟩, c3⟩, c4⟩, c5⟩, c6⟩, c7⟩, c8⟩, c9⟩ := hc
    have en := of_decide_eq_true c2
    have em := of_decide_eq_true c6
    subst en em
    unfold ev at h
    split at h
    · rename_i kvs he
      split at h
      · rename_i q
        simp only [Bool.and_eq_true] at q
        obtain ⟨qk, qv, hl⟩ := q
        have hl' : kvs.length < sizeLine := of_decide_eq_true hl
        obtain ⟨x, e0, run, h1⟩ := calm_ok h
        split at h1
        · rename_i kk hkk
          split at h1
          · rename_i os hos
            obtain ⟨y, e2', run2, h2⟩ := calm_ok h1
            split at h2
            · rename_i os' r hm
              have fin : ∀ (S4 : AS) (H4 : Hp) (w' : V) (a : Addr) (xs4 : List (Key × V)), Wd S4 Z H4 → RE X.K Z H4 σ (e.set i (some (.dk (sdfK kvs kk)))) S4 → Gr S Z H S4 Z H4 → σ[i]? = some (some (.ref a)) → H4 a = some (.dK xs4) → get1 xs4 kk = some w' →
                  tyV X.K "list" w' H4 ∧ wA X [vx] σ H4 fun vs H2 => rMV X (mtId .append) w' vs H2 Q := by
                intro S4 H4 w' a xs4 wd4 re4 gr4 hs ha4 hw'
                have hi : (e.set i (some (.dk (sdfK kvs kk))))[i]? = some (some (.dk (sdfK kvs kk))) := by
                  rw [List.getElem?_set_self]
                  rcases Nat.lt_or_ge i e.length with z | z
                  · exact z
                  · rw [List.getElem?_eq_none z] at he
                    cases he
                obtain ⟨vd, S1, S2, j1, j2, j3, j4, j5, j6⟩ := re4.at hi
                rw [hs] at j1
                cases j1
                obtain ⟨a', xs', w'', T', g1, g2, g3, g5⟩ := (Hole.root j2).dk hos
                cases g1
                rw [ha4] at g2
                cases g2
                rw [hw'] at g3
                cases g3
                refine ⟨?_, ?_⟩
                · obtain ⟨b, ys, T1, k1, k2, _⟩ := g5.list
                  subst k1
                  exact .inl ⟨rfl, ys, .inl (.inl k2)⟩
                · refine good_econs hv good_enil X W c k0 [vx] ok (by simp [chks, c7, c8]) σ S4 Z H4 _ wd4 re4 _ ?_
                  have run3 : evEs F (.cons vE .nil) (e.set i (some (.dk (sdfK kvs kk)))) = .ok [y] e2' := by
                    unfold evEs
                    rw [run2]
                    show ((evEs F .nil e2').bind fun xs e2 => Rs.ok (y :: xs) e2) = _
                    unfold evEs
                    rfl
                  rw [run3]
                  intro vs Z2 H2 S2' Sv p2
                  have wr := Wr.quiet wd4 (Ex.refl _) hs g5 j3 j4 j5 j6 (show qts (.cons vE .nil) = true by simp [qts, qv]) p2
                  refine mut_ok wr hm p2.ro fun S' rv H3 Br pr => h2 rv Z2 H3 S' Br ?_
                  have e3 : ((e.set i (some (.dk (sdfK kvs kk)))).set i none).set i (some (.dk (put1 (sdfK kvs kk) kk (.lst os')))) = e.set i (some (.dk (put1 (sdfK kvs kk) kk (.lst os')))) := by
                    rw [List.set_set, List.set_set]
                  have pr2 := PR.shift (q := false) wd4 gr4 (fun z => nomatch z) pr
                  rw [e3] at pr2
                  simpa [pl, qt] using pr2
              have c5' : plainB kx = true := c5
              have pls : M2 X (.Name n np) ("setdefault" : Str) ap1 kx (.List [] lp) cp1 := ⟨rfl, by rw [plain_star c5', plain_star (a := .List [] lp) rfl]; rfl, c3, by rw [plain_star c5', plain_star (a := .List [] lp) rfl]; rfl⟩
              refine wE_of (pe_bm PySem.F.plainAttrs_list (mt_slot .append) (mt_type .append) mt_rMV pe_wE pa_wA rfl (by rw [plain_star c8]; rfl) c9 (plain_star c8) rfl) ?_
              refine wE_of (pe_dsetd (ok.name c1) pe_wE pe_wE pls) ?_
              obtain ⟨vd, S1, S2, h1', j2, j3, j4, j5, j6⟩ := re.at he
              have j2' := j2
              cases j2 with
              | dk g1 g2 g3 g4 g5 =>
                rename_i a xs S'
                refine ⟨_, h1', a, rfl, .inl ⟨xs, .inl g1⟩, ?_⟩
                refine hk false X W c k0 kx ok c4 σ S Z H e wd re _ ?_
                rw [run]
                intro vk Zk Hk Sk Svk pk
                obtain ⟨xk, ezk, ssk⟩ := pk.quiet qk
                subst ezk
                have vkk : vk = kV kk := key_rd ((show RO X.K Zk Hk vk x Svk from pk.ro).view pk.wd.zh) hkk
                have wdk := wd.ex xk
                have rek := re.stay (Ex.refl _) xk.tx fun a u _ z => xk a u z
                refine good_lst good_enil false X W c k0 (.List [] lp) ok rfl σ S Zk Hk e wdk rek _ ?_
                have rl : ev F false (.lst .nil) e = .ok (.lst []) e := by
                  unfold ev evEs
                  rfl
                rw [rl]
                intro vz Zz Hz Sz Svz pz
                obtain ⟨xz, ezz, ssz⟩ := pz.quiet rfl
                subst ezz
                have ha : Hz a = some (.dK xs) := xz _ _ (xk _ _ g1)
                have ge := g3.get (k := kk)
                refine ⟨xs, kk, ha, vkk, by rw [g3.len]; exact hl', fun w' hw => ?_, fun hn => ?_⟩
                · rw [valV_get1] at hw
                  have is : (get1 kvs kk).isSome = true := by rw [← ge.1, hw]; rfl
                  have sk : sdfK kvs kk = kvs := by
                    unfold sdfK
                    obtain ⟨o', ho'⟩ := Option.isSome_iff_exists.mp is
                    rw [ho']
                  have es : e.set i (some (.dk (sdfK kvs kk))) = e := by
                    rw [sk]
                    exact set_same0 he
                  have xx := xk.trans xz
                  exact fin S Hz w' a xs (wd.ex xx) (by rw [es]; exact re.stay (Ex.refl _) xx.tx fun a u _ z => xx a u z) (Gr.ex xx) h1' ha hw
                · rw [valV_get1] at hn
                  have is : (get1 kvs kk).isSome = false := by rw [← ge.1, hn]; rfl
                  have hn2 : get1 kvs kk = none := by
                    cases z : get1 kvs kk with
                    | none => rfl
                    | some o => rw [z] at is; cases is
                  have sk : sdfK kvs kk = put1 kvs kk (.lst []) := by
                    unfold sdfK
                    rw [hn2]
                  have wr := Wr.quiet wd xk h1' ((Hole.root j2').stay (Ex.refl _) xk.tx fun a u _ z => xk a u z) j3 j4 j5 (j6.stay (Ex.refl _) xk.tx fun a u _ z => xk a u z) (rfl : qt (.lst .nil) = true) pz
                  obtain ⟨a', xs', T1, k1, k2, k3, k4, k5⟩ := wr.doneK
                  cases k1
                  rw [ha] at k2
                  cases k2
                  have rp := ROk.put (k := kk) k3 (show RO X.K Zz Hz vz (.lst []) Svz from pz.ro) fun x z => wr.d1v x (k4 x z)
                  obtain ⟨S4, p4⟩ := k5 (put1 xs kk vz) (put1 kvs kk (.lst [])) (Sor T1 Svz) (fun _ => False) .non (.fz .none) rp (.fz .non) (fun _ z => z) (fun _ z => z.elim) (fun _ _ z => z)
                  have ep : putK xs kk vz = put1 xs kk vz := by
                    rw [putK_new vz (by rw [valV_get1]; exact hn), get1_none_put hn]
                  rw [ep]
                  have es : (e.set i none).set i (some (.dk (put1 kvs kk (.lst [])))) = e.set i (some (.dk (sdfK kvs kk))) := by
                    rw [List.set_set, sk]
                  have re4 := p4.re
                  rw [es] at re4
                  exact fin S4 _ vz a (put1 xs kk vz) p4.wd re4 p4.gr h1' upd_same (by
                    rw [get1_none_put hn]
                    exact get1_snoc hn)
            · exact h2.elim
          · exact h1.elim
        · exact h1.elim
      · exact h.elim
    · exact h.elim
  · cases hc
end
end Rim
namespace Rim
open PySem PySem.Spec PyProof.Rows L2

section
variable {c : CT} {F : Fns} {cl : Str → Value} {k : Nat} {W : WX} {X : Cx} {σ σ' : L2.St} {S S1 S2 Sv Sv1 Sv2 T B : AS} {Z H Z1 H1 Z2 H2 : Hp} {e e1 e2 : Env} {a b : E} {x : Str} {K : PySem.W.Frag} {q t : Bool} {R : Hp → Hp → AS → AS → Prop}
/-! ### list(range(..)) -/
theorem rg_rds (lo hi : Int) : RDs K Z H (rgV lo hi) (rngD lo (hi - lo).toNat) := by
  unfold rgV rngD
  generalize List.range (hi - lo).toNat = l
  induction l with
  | nil => exact .nil
  | cons i r ih => exact .cons (.int _) ih
theorem rgOk_of {i j : Int} (h1 : rngOk i = true) (h2 : rngOk j = true) (h3 : Nat.ble (j - i).toNat 16777216 = true) : RgOk i j := by
  have a1 := rngOk_ok h1
  have a2 := rngOk_ok h2
  have a3 := Nat.le_of_ble_eq_true h3
  unfold RgOk
  omega
theorem good_lrg (ha : GoodE F cl a) : GoodE F cl (.lrg a) := by
  intro w X W c k ast ok hc σ S Z H e wd re Q h
  unfold chk at hc
  split at hc
  · rename_i x p y p2 z p3 pos
    simp only [Bool.and_eq_true] at hc
    obtain ⟨⟨⟨⟨⟨⟨k1, k2⟩, k3⟩, k4⟩, k5⟩, k6⟩, k7⟩ := hc
    have e1 := of_decide_eq_true k1
    have e2 := of_decide_eq_true k3
    subst e1 e2
    obtain ⟨b1, b2, b3, b4⟩ := ok.bltn k2
    obtain ⟨d1, d2, d3, d4⟩ := ok.bltn k4
    unfold ev at h
    refine wE_of (pe_listRg (ok.calm k7) b1 b3 (prg_1 d1 d3 pe_wE (plain_star k6))) (ha false X W c k z ok k5 σ S Z H e wd re _ (RSpec.bind (q2 := true) (fun z => ⟨by simpa [qt] using z, rfl⟩) (fun o1 e1 _ v1 Z1 H1 S1 Sv1 p1 h1 => ?_) h))
    obtain ⟨n, rfl, h3⟩ := intOf_ok h1
    cases (show RO _ _ _ _ _ _ from p1.ro).int
    split at h3
    · rename_i cd
      have cd' := Bool.and_eq_true_iff.mp cd
      refine ⟨n, rfl, rgOk_of (by decide) cd'.1 (by rw [Int.sub_zero]; exact cd'.2), fun q hq => ?_⟩
      have n3 := NP.list (K := X.K) (Z := Z1) (rg_rds 0 n) hq
      rw [Int.sub_zero] at n3
      exact h3 _ Z1 _ S1 _ (n3.pr (by simp [pl]) p1.wd p1.re)
    · exact h3.elim
  · cases hc
theorem good_lrg2 (ha : GoodE F cl a) (hb : GoodE F cl b) : GoodE F cl (.lrg2 a b) := by
  intro w X W c k ast ok hc σ S Z H e wd re Q h
  unfold chk at hc
  split at hc
  · rename_i x p y p2 z u p3 pos
    simp only [Bool.and_eq_true] at hc
    obtain ⟨⟨⟨⟨⟨⟨⟨⟨k1, k2⟩, k3⟩, k4⟩, k5⟩, k6⟩, k7⟩, k8⟩, k9⟩ := hc
    have e1 := of_decide_eq_true k1
    have e2 := of_decide_eq_true k3
    subst e1 e2
    obtain ⟨b1, b2, b3, b4⟩ := ok.bltn k2
    obtain ⟨d1, d2, d3, d4⟩ := ok.bltn k4
    unfold ev at h
    refine wE_of (pe_listRg (ok.calm k9) b1 b3 (prg_2 d1 d3 pe_wE pe_wE (plain_star k7) (plain_star k8) (nostars (by simp [plainsB, k8])))) (ha false X W c k z ok k5 σ S Z H e wd re _ (RSpec.bind (q2 := qt b) (fun z => by simpa [qt] using z) (fun o1 e1 _ v1 Z1 H1 S1 Sv1 p1 h1 => ?_) h))
    obtain ⟨n, rfl, h3⟩ := intOf_ok h1
    cases (show RO _ _ _ _ _ _ from p1.ro).int
    refine hb false X W c k u ok k6 σ S1 Z1 H1 e1 p1.wd p1.re _ (RSpec.bind (q2 := true) (fun z => ⟨z, rfl⟩) (fun o2 e2 _ v2 Z2 H2 S2 Sv2 p2 h2 => ?_) h3)
    obtain ⟨m, rfl, h4⟩ := intOf_ok h2
    cases (show RO _ _ _ _ _ _ from p2.ro).int
    split at h4
    · rename_i cd
      simp only [Bool.and_eq_true] at cd
      refine ⟨n, m, rfl, rfl, rgOk_of cd.1.1 cd.1.2 cd.2, fun q hq => ?_⟩
      exact h4 _ Z2 _ S2 _ ((NP.list (K := X.K) (Z := Z2) (rg_rds n m) hq).pr (by simp [pl]) p2.wd p2.re)
    · exact h4.elim
  · cases hc
/-! ### max, min of two -/
theorem boot_mm (g : Bool) : bootBuiltins (if g then ("max" : Str) else ("min" : Str)) = some (.builtin (if g then "max" else "min")) := by
  cases g <;> decide +kernel
theorem call_mm {X : Cx} (hc : X.calm = true) (g : Bool) : CallR X (.builtin (if g then "max" else "min")) (fun xs H Q => ∃ i j, xs = [.int i, .int j] ∧ Q (.int (if g then (if j > i then j else i) else (if j < i then j else i))) H) := by
  cases g
  · exact call_min2 hc
  · exact call_max2 hc
theorem good_mm {g : Bool} (ha : GoodE F cl a) (hb : GoodE F cl b) : GoodE F cl (.mm g a b) := by
  intro w X W c k ast ok hc σ S Z H e wd re Q h
  unfold chk at hc
  split at hc
  · rename_i x p y z pos
    simp only [Bool.and_eq_true] at hc
    obtain ⟨⟨⟨⟨⟨⟨k1, k2⟩, k3⟩, k4⟩, k5⟩, k6⟩, k7⟩ := hc
    have e1 := of_decide_eq_true k1
    subst e1
    unfold ev at h
    refine wE_of (pe_bl ok k2 (boot_mm g) (.inl ⟨_, rfl⟩) k5 (by simp [plainsB, k6]) (pa_cons pe_wE (pa_cons pe_wE pa_nil (plain_star k6)) (plain_star k5))) (ha false X W c k y ok k3 σ S Z H e wd re _ (RSpec.bind (q2 := qt b) (fun z => by simpa [qt] using z) (fun o1 e1 _ v1 Z1 H1 S1 Sv1 p1 h1 => ?_) h))
    obtain ⟨n, rfl, h3⟩ := intOf_ok h1
    cases (show RO _ _ _ _ _ _ from p1.ro).int
    refine hb false X W c k z ok k4 σ S1 Z1 H1 e1 p1.wd p1.re _ (RSpec.bind (q2 := true) (fun z => ⟨z, rfl⟩) (fun o2 e2 _ v2 Z2 H2 S2 Sv2 p2 h2 => ?_) h3)
    obtain ⟨m, rfl, h4⟩ := intOf_ok h2
    cases (show RO _ _ _ _ _ _ from p2.ro).int
    exact fun σ' => callV_of (call_mm (ok.calm k7) g) ⟨_, _, rfl, h4 _ Z2 H2 S2 _ (PR.here p2.wd p2.re (.fz (.int _)))⟩
  · cases hc
/-! ### sorted -/
theorem ros_perm {ps qs : List (V × O)} (h : ps.Perm qs) : ∀ {S : AS}, ROs K Z H (ps.map (·.1)) (ps.map (·.2)) S → ROs K Z H (qs.map (·.1)) (qs.map (·.2)) S := by
  induction h with
  | nil => exact fun h => h
  | cons x _ ih =>
    intro S h
    cases h with
    | cons h1 h2 b c d => exact .cons h1 (ih h2) b c d
  | swap x y l =>
    intro S h
    cases h with
    | cons h1 h2 b c d =>
      rename_i A1 A2
      cases h2 with
      | cons h3 h4 b2 c2 d2 =>
        rename_i A3 A4
        exact .cons h3 (.cons (S := Sor A1 A4) h1 h4 (fun _ => .inl) (fun _ => .inr) fun x z y => d x z (c2 x y)) (fun x z => c x (b2 x z)) (fun x z => z.elim (b x) fun y => c x (c2 x y)) fun x z y => y.elim (fun w => d x w (b2 x z)) (d2 x z)
  | trans _ _ ih1 ih2 => exact fun h => ih2 (ih1 h)
theorem zip_fst {α β : Type} : ∀ {xs : List α} {ys : List β}, xs.length = ys.length → (xs.zip ys).map (·.1) = xs
  | [], [], _ => rfl
  | x :: xs, y :: ys, h => by
    have := zip_fst (xs := xs) (ys := ys) (by simpa using h)
    simpa using this
theorem zip_snd {α β : Type} : ∀ {xs : List α} {ys : List β}, xs.length = ys.length → (xs.zip ys).map (·.2) = ys
  | [], [], _ => rfl
  | x :: xs, y :: ys, h => by
    have := zip_snd (xs := xs) (ys := ys) (by simpa using h)
    simpa using this
theorem srtB_ok {ds : List PyData} (h : srtB ds = true) : PySem.W.AllAlike ds ∧ PySem.W.Sortable ds ∧ (∀ d ∈ ds, SeqAt.shaped d = true) ∧ ds.length ≤ sizeLine := by
  unfold srtB at h
  simp only [Bool.and_eq_true, Bool.or_eq_true] at h
  obtain ⟨⟨⟨h1, h2⟩, h3⟩, h4⟩ := h
  refine ⟨fun d hd d' hd' => List.all_eq_true.mp (List.all_eq_true.mp h1 d hd) d' hd', ?_, List.all_eq_true.mp h3, room_le h4⟩
  rcases h2 with h2 | h2
  · refine .inl fun d hd => ?_
    have q := List.all_eq_true.mp h2 d hd
    unfold tupNB at q
    split at q
    · exact ⟨_, _, rfl⟩
    · cases q
  · refine .inr fun d hd => ?_
    have q := List.all_eq_true.mp h2 d hd
    unfold onlyB at q
    split at q
    · cases q
    · cases q
    · rename_i n1 n2
      exact ⟨n1, n2⟩
theorem shaped_depth {d : PyData} (h : SeqAt.shaped d = true) : d.depth ≤ 64 := by
  unfold SeqAt.shaped at h
  exact of_decide_eq_true (Bool.and_eq_true_iff.mp h).2
theorem each_rel : ∀ {ps : List (V × O)} {us : List Value}, Vals (ps.map (·.1)) us → PySem.W.EachIs (fun u p => RelV p.1 u) us ps
  | [], _, h => by cases h; exact .nil
  | p :: ps, _, h => by cases h with | cons h1 h2 => exact .cons h1 (each_rel h2)
theorem rel_each : ∀ {ps : List (V × O)} {us : List Value}, PySem.W.EachIs (fun u p => RelV p.1 u) us ps → Vals (ps.map (·.1)) us
  | [], _, h => by cases h; exact .nil
  | p :: ps, _, h => by cases h with | cons h1 h2 => exact .cons h1 (rel_each h2)
theorem each_reads {pins : List (Addr × Obj)} {s : Shared} (I : Inv X pins σ H s) : ∀ {ps : List (V × O)} {us : List Value}, Vals (ps.map (·.1)) us → DpAll X.K H (ps.map (·.1)) (ps.map fun p => er p.2) → PySem.W.EachIs (fun u p => ∃ as, Reads s.heap u (er p.2) as) us ps
  | [], _, h, _ => by cases h; exact .nil
  | p :: ps, _, h, d => by
    cases h with
    | cons h1 h2 =>
      cases d with
      | cons d1 d2 => exact .cons (Dp.reads I _ _ _ d1 h1) (each_reads I h2 d2)
theorem ers_mapS : ∀ os : List O, ers os = os.map er
  | [] => rfl
  | o :: os => by rw [ers, ers_mapS os]; rfl
theorem canAll_of : ∀ {ds : List PyData}, (∀ d ∈ ds, SeqAt.shaped d = true) → PyData.canLayAll0 ds = true
  | [], _ => rfl
  | d :: ds, h => by
    unfold PyData.canLayAll0
    rw [SeqAt.canLay_of_shaped (h d (by simp)), canAll_of fun b hb => h b (by simp [hb])]
    rfl
theorem srt_run {pins : List (Addr × Obj)} {s : Shared} (I : Inv X pins σ H s) {a : Addr} {ps : List (V × O)} (rv : Bool) (hs : SqL X.K H a (ps.map (·.1))) (hd : RDs X.K H H (ps.map (·.1)) (ps.map fun p => er p.2)) (hB : srtB (ps.map fun p => er p.2) = true) (hu : X.A.units + 100 < cLine) {Q : VK}
    (q : ∀ p, H p = none → Q (.ref p) (upd H p (.lst ((ps.mergeSort (PySem.W.dataLe rv fun p => er p.2)).map (·.1))))) : wpAny (model X.prog X.w) X.A (call (.builtin "sorted") [.ref a] (if rv then [(Str.ofString "reverse", .bool true)] else [])) (EP X pins σ Q) X.xe s := by
  obtain ⟨al, so, sh, hl⟩ := srtB_ok hB
  obtain ⟨its, rvs, pl, hz⟩ := I.list hs
  have hr := each_reads I rvs (hd.dp (canAll_of sh))
  have hdp : ∀ p ∈ ps, X.A.units + 2 + (er p.2).depth < cLine := fun p hp => by
    have := shaped_depth (sh _ (List.mem_map_of_mem (f := fun p : V × O => er p.2) hp))
    omega
  rw [List.length_map] at hl
  have fin : ∀ out, out.length = ps.length → PySem.W.EachIs (fun u (p : V × O) => RelV p.1 u) out (ps.mergeSort (PySem.W.dataLe rv fun p => er p.2)) → EP X pins σ Q (.ref (s.heap.objs.size + 1)) { s with heap := PyProof.Rows.sortedAll s.heap its out.toArray } := fun out ho hev => by
    obtain ⟨ep, he'⟩ := PyProof.Rows.sortedAll_at s.heap its out.toArray
    have hlen : ((ps.mergeSort (PySem.W.dataLe rv fun p => er p.2)).map (·.1)).length ≤ sizeLine := by
      rw [List.length_map, List.length_mergeSort]
      exact hl
    exact ⟨.ref _, upd H (s.heap.objs.size + 1) (.lst _), I.laid (t' := s.toks) (fun _ _ => PyProof.Rows.sortedAll_old) (Nat.le_succ _) ⟨hlen, out, ep, rel_each hev, he'⟩, rfl, q _ (I.hok.fresh (Nat.le_succ _))⟩
  cases rv with
  | false => exact PySem.W.sorted_data pl.isList (each_rel rvs) hr al so hl hdp fin
  | true => exact PySem.W.sorted_rev_data pl.isList (each_rel rvs) hr al so hl hdp fin
theorem PR.less {R' : Hp → Hp → AS → AS → Prop} (p : PR K q true σ S Z H e R Z1 H1 S1 Sv) (s : ∀ x, T x → Sv x) (r : R' Z1 H1 S1 T) : PR K q true σ S Z H e R' Z1 H1 S1 T :=
  ⟨p.wd, p.gr, p.re, r, fun _ => ⟨fun a z y => (p.apart rfl).1 a z (s a y), (p.apart rfl).2.1.sub s, (p.apart rfl).2.2.subR fun x z => z.imp id (s x)⟩, (fun z => nomatch z), p.quiet⟩
def rCK (X : Cx) (f : Value) (ks : List Str) : List V → List V → Hp → VK → Prop := fun xs zs H Q => ∀ pins s σ us ws, Inv X pins σ H s → Vals xs us → Vals zs ws → wpAny (model X.prog X.w) X.A (call f us (ks.zip ws)) (EP X pins σ Q) X.xe s
theorem call_rCK {X : Cx} {f : Value} {ks : List Str} : CallRK X f ks (rCK X f ks) := fun pins s σ H xs zs us ws Q I r rz h => h pins s σ us ws I r rz
theorem boot_sorted : bootBuiltins ("sorted" : Str) = some (.builtin "sorted") := by decide +kernel
theorem units100 (ok : XOk c F cl k W X) : X.A.units + 100 < cLine := by
  have := ok.rm.un
  omega
theorem srt_fz (rv : Bool) (ds : List PyData) : (ds.map O.fz).mergeSort (PySem.W.dataLe rv er) = (ds.mergeSort (PySem.W.dataLe rv id)).map .fz :=
  (List.map_mergeSort (f := O.fz) (r := PySem.W.dataLe rv id) (s := PySem.W.dataLe rv er) (fun a _ b _ => rfl)).symm
theorem er_fzs (ds : List PyData) : (ds.map O.fz).map er = ds := by
  rw [List.map_map]
  exact (List.map_congr_left fun d _ => rfl).trans (List.map_id ds)
/-- the list that is sorted, as a list of trees -/
theorem srt_list {o o3 : O} {rv : Bool} (h : srtO rv o = some o3) {v : V} (ro : RO K Z H v o S) (zh : Ex Z H) : ∃ a xs os T, v = .ref a ∧ SqL K H a xs ∧ ROs K Z H xs os T ∧ (∀ x, T x → S x) ∧ srtB (os.map er) = true ∧ o3 = .lst (os.mergeSort (PySem.W.dataLe rv er)) := by
  unfold srtO at h
  split at h
  · split at h
    · rename_i cd
      cases h
      cases ro with
      | lst g1 g2 g3 g4 g5 => exact ⟨_, _, _, _, rfl, .inl (.inl g1), g3, g4, by rw [← ers_mapS]; exact cd, rfl⟩
    · cases h
  · rename_i ds
    split at h
    · rename_i cd
      cases h
      cases ro.rd with
      | lst g1 g2 => exact ⟨_, _, ds.map .fz, fun _ => False, rfl, sqL_ex zh g1, ros_fz g2, fun _ z => z.elim, by rw [er_fzs]; exact cd, by rw [srt_fz]⟩
    · cases h
  · cases h
theorem good_srt {rv : Bool} (ha : GoodE F cl a) : GoodE F cl (.srt a rv) := by
  intro w X W c k ast ok hc σ S Z H e wd re Q h
  unfold chk at hc
  split at hc
  · rename_i x p y ks pos
    simp only [Bool.and_eq_true] at hc
    obtain ⟨⟨⟨⟨k1, k2⟩, k3⟩, k4⟩, k5⟩ := hc
    have e1 := of_decide_eq_true k1
    subst e1
    unfold ev at h
    have main : ∀ {Q' : VK}, (∀ v H1, Q' v H1 → (∀ pins s σ' (u : Value), Inv X pins σ' H1 s → RelV v u → wpAny (model X.prog X.w) X.A (call (.builtin "sorted") [u] (if rv then [(Str.ofString "reverse", .bool true)] else [])) (EP X pins σ' Q) X.xe s) → True) → True := fun _ => True.intro
    have arg : wE X y σ H fun v H1 => ∀ pins s σ' (u : Value), Inv X pins σ' H1 s → RelV v u → wpAny (model X.prog X.w) X.A (call (.builtin "sorted") [u] (if rv then [(Str.ofString "reverse", .bool true)] else [])) (EP X pins σ' Q) X.xe s := by
      refine ha false X W c k y ok k3 σ S Z H e wd re _ (RSpec.bindAt wd .refl (fun o1 e1 _ v1 Z1 H1 S1 Sv1 p1 h1 => ?_) h)
      have p1' : PR X.K (qt a) true σ S Z H e1 (repO X.K v1 o1) Z1 H1 S1 Sv1 := p1
      obtain ⟨o3, e3, h3⟩ := RSpec.of h1
      obtain ⟨ad, xs, os, T, rfl, g1, g2, g3, g4, rfl⟩ := srt_list e3 p1'.ro p1.wd.zh
      have hl := ROs.length g2
      have hx : (xs.zip os).map (·.1) = xs := zip_fst hl
      have hy : ((xs.zip os).map fun p => er p.2) = os.map er := by
        have z := congrArg (List.map er) (zip_snd hl)
        rw [List.map_map] at z
        exact z
      intro pins s σ' u I r
      cases r
      refine srt_run I rv (ps := xs.zip os) (by rw [hx]; exact g1) (by rw [hx, hy, ← ers_mapS]; exact ROs.frz p1.wd.zh g2 fun _ _ _ z => z) (by rw [hy]; exact g4) (units100 ok) fun p hp => ?_
      have pm : (xs.zip os).Perm ((xs.zip os).mergeSort (PySem.W.dataLe rv fun p => er p.2)) := (List.mergeSort_perm _ _).symm
      have r2 := ros_perm pm (by rw [hx, zip_snd hl]; exact g2)
      have es : ((xs.zip os).mergeSort (PySem.W.dataLe rv fun p => er p.2)).map (·.2) = os.mergeSort (PySem.W.dataLe rv er) := by
        have z := List.map_mergeSort (f := fun p : V × O => p.2) (r := PySem.W.dataLe rv fun p : V × O => er p.2) (s := PySem.W.dataLe rv er) (l := xs.zip os) (fun a _ b _ => rfl)
        rw [zip_snd hl] at z
        exact z
      rw [es] at r2
      have pT : PR X.K (qt a) true σ S Z H e1 (repOs X.K _ _) Z1 H1 S1 T := p1'.less g3 r2
      have nS : ¬ T p := fun z => not_own_none (pT.apart rfl).2.1 z hp
      have z := pT.newL (p := p) (o := .lst ((List.mergeSort (xs.zip os) (PySem.W.dataLe rv fun p => er p.2)).map (·.1))) hp True.intro (R' := repO X.K (.ref p) (.lst (os.mergeSort (PySem.W.dataLe rv er)))) (.lst upd_same (.inr rfl) (ros_stay r2 hp) (fun _ => .inl) nS)
      exact h3 (.ref p) Z1 _ S1 _ ⟨z.wd, z.gr, z.re, z.ro, fun _ => z.apart rfl, (fun y => by simp [pl] at y), fun y => by simp [qt] at y⟩
    split at k5
    · refine wE_of (pe_bl ok k2 boot_sorted (.inl ⟨_, rfl⟩) k4 rfl (pa_cons pe_wE pa_nil (plain_star k4))) (wE_mono arg fun v H1 q σ' pins s us I r => ?_)
      cases r with
      | cons r1 r2 =>
        cases r2
        exact q pins s σ' _ I r1
    · rename_i n cp ci kp
      have en := of_decide_eq_true k5
      subst en
      obtain ⟨b1, b2, b3, b4⟩ := ok.bltn k2
      have hst := plain_star (env := X.env) (r := []) k4
      refine wE_of (pe_callBK (ks := [Str.ofString "reverse"]) call_rCK b1 b3 boot_sorted (pa_cons pe_wE pa_nil hst) (pk_cons L2.pe_bl pk_nil) b4 b2 (by rw [hst]; rfl) (by rw [hst]; rfl) rfl rfl rfl) (wE_mono arg fun v H1 q => fun pins s σ' us ws I r rz => ?_)
      cases r with
      | cons r1 r2 =>
        cases r2
        cases rz with
        | cons z1 z2 =>
          cases z2
          cases z1
          exact q pins s σ' _ I r1
    · cases k5
  · cases hc
/-! ### a method of a list of a name, with what is called -/
theorem good_mutA {m : Mt} {i : Nat} {es : Es} (hes : GoodEs F cl es) : GoodE F cl (.mutA m i es) := by
  intro w0 X W c k ast ok hc σ S Z H e wd re Q h
  unfold chk at hc
  split at hc
  · rename_i x xp n ap xs cp
    simp only [Bool.and_eq_true, Bool.not_eq_true'] at hc
    obtain ⟨⟨⟨⟨⟨k1, k2⟩, k3⟩, k4⟩, k5⟩, k6⟩ := hc
    have en := of_decide_eq_true k1
    have el := of_decide_eq_true k5
    subst en
    unfold ev at h
    split at h
    · rename_i o he
      obtain ⟨v, S1, S2, h1, h2, h3, h4, h5, h6⟩ := re.at he
      cases xs with
      | nil => cases k6
      | cons y ys =>
        have pls := chks_plains k3
        have pls' : plainB y = true ∧ plainsB ys = true := by simpa [plainsB] using pls
        have few : ((backTo cp (starEach (y :: ys) X.env)).all (fun x => !x.1) && (backToKw cp (keywordEach [] X.env)).all (fun x => x.1.isSome)
            && decide ((y :: ys).length + ([] : List Keyword).length + (if ([] : List Keyword).isEmpty then 0 else 1) < 30)) = true := by
          cases ys with
          | nil => rw [plain_star pls'.1]; rfl
          | cons z zs =>
            cases zs with
            | nil =>
              have pz : plainB z = true := by simpa [plainsB] using pls'.2
              rw [plain_star pls'.1, plain_star pz]
              rfl
            | cons z2 zs =>
              have : mtL m ≤ 2 := by cases m <;> decide
              rw [← el] at this
              simp at this
        have h2' := h2
        cases h2 with
        | lst g1 g2 g3 g4 g5 =>
          refine wE_of (pe_bm PySem.F.plainAttrs_list (mt_slot m) (mt_type m) mt_rMV (ok.name k2) pa_wA rfl few k4 (plain_star pls'.1) (nostars pls'.2)) ⟨_, h1, .inl ⟨rfl, _, .inl (.inl g1)⟩, ?_⟩
          refine hes X W c k (y :: ys) ok k3 σ S Z H e wd re _ (RSpec.bindAt wd .refl (fun as e1 _ vs Z2 H2 S3 Sv p2 hh => ?_) h)
          split at hh
          · rename_i os he1
            split at hh
            · rename_i os' r hm
              obtain ⟨v', A1, A2, j1, j2, j3, j4, j5, j6⟩ := p2.re.at he1
              rw [h1] at j1
              cases j1
              obtain ⟨b1, b2, b3⟩ := p2.apart rfl
              have sU : ∀ x, Sor A2 (Sor A1 Sv) x → Sor S3 Sv x := fun x z => z.elim (fun y => .inl (j4 x y)) fun z => z.imp (j3 x) id
              have wr : Wr X.K σ S Z H i (e1.set i none) A1 A2 Sv _ _ (.lst os) A1 (fun x => x) Z2 H2 := ⟨(p2.wd.or b2).sub sU, b3.subR sU, j6, h1, j5, fun x z y => b1 x (j3 x z) y, fun x z y => b1 x (j4 x z) y, .root j2⟩
              have e3 : (e1.set i none).set i (some (.lst os')) = e1.set i (some (.lst os')) := List.set_set ..
              exact mut_ok wr hm p2.ro fun S' rv H3 Br pr => hh rv Z2 H3 S' Br (by
                rw [e3] at pr
                simpa [pl, qt] using pr)
            · exact hh.elim
          · exact hh.elim
    · exact h.elim
  · cases hc
/-! ### an item, where the place is called for -/
theorem good_ixA {i : Nat} (hb : GoodE F cl b) : GoodE F cl (.ixA i b) := by
  intro w X W c k ast ok hc σ S Z H e wd re Q h
  unfold chk at hc
  split at hc
  · rename_i x xp y pos
    simp only [Bool.and_eq_true] at hc
    unfold ev at h
    split at h
    · rename_i o0 he
      obtain ⟨v, S1, S2, h1, h2, h3, h4, h5, h6⟩ := re.at he
      refine wE_ix (plain_ix hc.2) (wE_of (ok.name hc.1.1) ⟨v, h1, ?_⟩)
      refine hb false X W c k y ok hc.1.2 σ S Z H e wd re _ (RSpec.bindAt wd .refl (fun o1 e1 _ u Z2 H2 S3 Sv p2 hh => ?_) h)
      split at hh
      · rename_i ox he1
        split at hh
        · rename_i o3 e3
          obtain ⟨v', A1, A2, j1, j2, j3, j4, j5, j6⟩ := p2.re.at he1
          rw [h1] at j1
          cases j1
          obtain ⟨w3, T, g1, g2, g3⟩ := item_ok (σ := σ) (by have := ok.hu; omega) e3 j2 (show RO _ _ _ _ _ _ from p2.ro) p2.wd.zh
          split at hh
          · rename_i hz
            obtain ⟨d, rfl⟩ := isFz_eq hz
            refine g3 Q (hh w3 Z2 H2 S3 (fun _ => False) ?_)
            have p2' : PR X.K (qt b) true σ S Z H e1 (repO X.K _ o1) Z2 H2 S3 Sv := p2
            have pz : PR X.K (qt b) true σ S Z H e1 (repO X.K w3 (.fz d)) Z2 H2 S3 (fun _ => False) := p2'.flat (.fz g1.rd)
            exact ⟨pz.wd, pz.gr, pz.re, pz.ro, fun _ => pz.apart rfl, (fun y => by simp [pl] at y), fun y => by simp [qt] at y⟩
          · exact hh.elim
        · exact hh.elim
      · exact hh.elim
    · exact h.elim
  · cases hc
end
end Rim
namespace Rim
open PySem PySem.Spec PyProof.Rows L2

section
variable {c : CT} {F : Fns} {cl : Str → Value} {k : Nat} {W : WX} {X : Cx} {σ σ' : L2.St} {S S1 S2 Sv Sv1 Sv2 T B : AS} {Z H Z1 H1 Z2 H2 : Hp} {e e1 e2 : Env} {a b : E} {x : Str} {K : PySem.W.Frag} {q t : Bool} {R : Hp → Hp → AS → AS → Prop}
theorem PR.reS (p : PR K q t σ S Z H e R Z1 H1 S1 Sv) (r : RE K Z1 H1 σ' e1 S1) : PR K q t σ' S Z H e1 R Z1 H1 S1 Sv := ⟨p.wd, p.gr, r, p.ro, p.apart, p.sub, p.quiet⟩
theorem RE.more {σ σ' : L2.St} {e : Env} (h : RE K Z H σ e S) : (∀ (i : Nat) (v : V), σ[i]? = some (some v) → σ'[i]? = some (some v)) → σ'.length = σ.length → RE K Z H σ' e S := by
  induction h generalizing σ' with
  | nil =>
    intro _ l
    cases σ' with
    | nil => exact .nil
    | cons x r => cases l
  | non r ih =>
    intro f l
    cases σ' with
    | nil => cases l
    | cons x s => exact .non (ih (fun i v q => f (i + 1) v q) (by simpa using l))
  | som ho r b c d ih =>
    intro f l
    cases σ' with
    | nil => cases l
    | cons x s =>
      rename_i v0 σ0 o0 e0 _ _ _
      have e1 : x = some v0 := by simpa using f 0 v0 rfl
      subst e1
      exact .som ho (ih (fun i v q => f (i + 1) v q) (by simpa using l)) b c d
theorem RE.unwipe {vs : List Nat} (h : RE K Z H (L2.wipe σ vs) e S) : RE K Z H σ e S := h.more (fun i v q => (wipe_some q).1) (wipe_length _ _).symm
/-- the heap grows behind a result -/
theorem PR.grow (p : PR K q t σ S Z H e R Z1 H1 S1 Sv) (x : Ex H1 H2) {R' : Hp → Hp → AS → AS → Prop} (r : R' Z1 H2 S1 Sv) : PR K q t σ S Z H e R' Z1 H2 S1 Sv := by
  have gw : ∀ {T : AS}, Wd T Z1 H1 → Wd T Z1 H2 := fun {T} w => ⟨fun a u z => x a u (w.zh a u z), fun a z => ⟨(w.own a z).1, by
    have m := (w.own a z).2
    cases r : H1 a with
    | none => rw [r] at m; exact m.elim
    | some o => rw [x a o r]; rw [r] at m; exact m⟩⟩
  exact ⟨gw p.wd, ⟨p.gr.z, fun a o y n => x a o (p.gr.keep a o y n), p.gr.new⟩, p.re.stay (Ex.refl _) x.tx fun a u _ z => x a u z, r, fun z => ⟨(p.apart z).1, gw (p.apart z).2.1, ⟨(p.apart z).2.2.z, fun a o y n => x a o ((p.apart z).2.2.keep a o y n), (p.apart z).2.2.new⟩⟩, p.sub, fun z => ⟨(p.quiet z).1.trans x, (p.quiet z).2⟩⟩
theorem ROs.snoc {xs : List V} {os : List O} {v : V} {o : O} {A : AS} (h : ROs K Z H xs os A) (r : RO K Z H v o B) (d : ∀ x, A x → ¬ B x) : ROs K Z H (xs ++ [v]) (os ++ [o]) (Sor A B) := h.app (ROs.solo r) d
/-- one more into the list that is being made -/
theorem push_pr {D : Addr} {acc : List O} {y : V} {o : O} {q2 : Bool} (p : PR K false true σ S Z H e (repO K (.ref D) (.lst acc)) Z1 H1 S1 Sv1) (p2 : PR K q2 true σ' S1 Z1 H1 e2 (repO K y o) Z2 H2 S2 Sv2) :
    ∃ xs, H2 D = some (.lst xs) ∧ xs.length = acc.length ∧ PR K false true σ' S Z H e2 (repO K (.ref D) (.lst (acc ++ [o]))) Z2 (upd H2 D (.lst (xs ++ [y]))) S2 (Sor Sv1 Sv2) ∧ Tx K H1 (upd H2 D (.lst (xs ++ [y]))) := by
  have kp := kept_of p p2
  have r1 := fst_kept p p2 (.inl rfl)
  cases r1 with
  | lst g1 g2 g3 g4 g5 =>
    rename_i xs T
    obtain ⟨b1, b2, b3⟩ := p2.apart rfl
    have wall : Wd (Sor S2 (Sor Sv1 Sv2)) Z2 H2 := p2.wd.or (kp.wd.or b2)
    have hD : Sor S2 (Sor Sv1 Sv2) D := .inr (.inl g2)
    have wput : Wd (Sor S2 (Sor Sv1 Sv2)) Z2 (upd H2 D (.lst (xs ++ [y]))) := wall.put hD True.intro
    have gput : Gr (Sor S2 (Sor Sv1 Sv2)) Z2 H2 (Sor S2 (Sor Sv1 Sv2)) Z2 (upd H2 D (.lst (xs ++ [y]))) := Gr.put hD
    have tx : Tx K H2 (upd H2 D (.lst (xs ++ [y]))) := gput.tx wall
    have ne : ∀ {A : AS}, ¬ A D → ∀ a u, A a → H2 a = some u → upd H2 D (.lst (xs ++ [y])) a = some u := fun {A} h a u z w => by
      rw [upd_ne fun z2 => h (by rw [← z2]; exact z)]
      exact w
    refine ⟨xs, g1, ROs.length g3, ⟨wput.sub fun _ => .inl, (kp.gr.trans wall gput).subR fun _ => .inl, p2.re.stay (Ex.refl _) tx (ne (kp.dj D g2).1), ?_, fun _ => ⟨fun a z w => ?_, wput.sub fun _ => .inr, kp.gr.trans wall gput⟩, (fun z => nomatch z), fun z => nomatch z⟩, (p2.tx p.wd).trans tx⟩
    · have h1 := ROs.stay (Ex.refl _) tx g3 (ne g5)
      have h2 := RO.stay (Ex.refl _) tx p2.ro (ne (kp.dj D g2).2)
      exact .lst upd_same (.inl g2) (h1.snoc h2 fun x z => (kp.dj x (g4 x z)).2) (fun x z => z.elim (fun w => .inl (g4 x w)) .inr) fun z => z.elim g5 (kp.dj D g2).2
    · rcases w with w | w
      · exact (kp.dj a w).1 z
      · exact b1 a z w
/-- the list that is being made, behind a later evaluation -/
theorem hold_pr {D : Addr} {acc : List O} {q2 : Bool} {R2 : Hp → Hp → AS → AS → Prop} (p : PR K false true σ S Z H e (repO K (.ref D) (.lst acc)) Z1 H1 S1 Sv1) (p2 : PR K q2 true σ' S1 Z1 H1 e2 R2 Z2 H2 S2 Sv2) :
    PR K false true σ' S Z H e2 (repO K (.ref D) (.lst acc)) Z2 H2 S2 Sv1 := by
  have kp := kept_of p p2
  have r1 := fst_kept p p2 (.inl rfl)
  exact ⟨p2.wd, kp.gr.subR fun _ => .inl, p2.re, r1, fun _ => ⟨fun a z y => (kp.dj a y).1 z, kp.wd, kp.gr.subR fun x z => z.elim .inl fun y => .inr (.inl y)⟩, (fun z => nomatch z), fun z => nomatch z⟩

/-! ### a block's context -/
theorem XOk.blk (ok : XOk c F cl k W X) (scope : Scope) (s : Shared) (H0 : Hp) (C : Addr) (ce : List (Str × Addr)) (fp : List Addr) : XOk (blkCT c scope) F cl k (fun _ _ _ _ => False) (X.blk s H0 scope (compEnvC scope ce C X.env) fp) where
  N := ok.N
  nd := ok.nd
  sc := by
    show relS scope X.env.scope = relS scope c.sc
    rw [ok.sc]
  fnb := fun x h => h
  calm := ok.calm
  bl := ok.bl
  hu := ok.hu
  tk := L2.takes0
  rm := ok.rm
  hots := ok.hots
  fs := ok.fs
  exk := ok.exk
  hxk := ok.hxk
def wTs (X : Cx) (ifs : List Expr) : TT := fun σ H Q => ∀ pins s, Inv X pins σ H s → wpAny (model X.prog X.w) X.A (forIn ifs true fun c r => if r = true then do let ok ← isTrue c X.env (eval c X.env); pure (ForInStep.yield ok) else pure (ForInStep.yield r)) (TP X pins σ Q) X.xe s
theorem pts_wTs {ifs : List Expr} : PTs X ifs (wTs X ifs) := ⟨fun pins s σ H Q I h => h pins s I⟩
theorem wTs_of {ifs : List Expr} {t : TT} (h : PTs X ifs t) {Q : Bool → Hp → Prop} (q : t σ H Q) : wTs X ifs σ H Q := fun pins s I => h.run pins s σ H Q I q
def GoodC (F : Fns) (cl : Str → Value) (oe : OE) : Prop := ∀ (X : Cx) (W : WX) (c : CT) (k : Nat) (ifs : List Expr), XOk c F cl k W X → chkC c oe ifs = true → ∀ (σ : L2.St) (S : AS) (Z H : Hp) (e : Env), Wd S Z H → RE X.K Z H σ e S →
  SR X W cl repId (qtO oe) true (wTs X ifs) σ S Z H (evC F oe e)
theorem good_cno : GoodC F cl .no := by
  intro X W c k ifs ok hc σ S Z H e wd re Q h
  unfold chkC at hc
  split at hc
  · exact wTs_of pts_nil (h true Z H S _ (PR.here wd re rfl))
  · cases hc
theorem good_cso (ha : tokB a = true → GoodT F cl a) : GoodC F cl (.so a) := by
  intro X W c k ifs ok hc σ S Z H e wd re Q h
  unfold chkC at hc
  split at hc
  · have hc' := Bool.and_eq_true_iff.mp hc
    unfold evC at h
    exact wTs_of (pts_one pt_wT) (ha hc'.2 X W c k _ ok hc'.1 σ S Z H e wd re _ h)
  · cases hc
theorem folded_plain {y : Expr} {env : PySem.Env} (h : plainB y = true) : ∀ v, foldedSetIterable y env v = pure v := by
  intro v
  cases y <;> first | rfl | (simp [plainB] at h)
theorem chkI_plain {it : It} {ast : Expr} (h : chkI c it ast = true) : plainB ast = true := by
  cases it <;> unfold chkI at h
  · exact (Bool.and_eq_true_iff.mp h).2
  all_goals
    split at h
    · rfl
    · cases h
theorem bind_ok {α β : Type} {r : Rs α} {f : α → Env → Rs β} {b : β} {e' : Env} (h : r.bind f = .ok b e') : ∃ a e1, r = .ok a e1 ∧ f a e1 = .ok b e' := by
  cases r with
  | ok a e1 => exact ⟨a, e1, rfl, h⟩
  | ex c e1 => cases h
  | no => cases h
theorem isTup_tg {tg : Tg} {ast : Expr} (h : chkTg c tg ast = true) (q : isTupT tg = true) : ∃ es n p, ast = .Tuple es n p := by
  cases tg with
  | nm i => cases q
  | tp a b =>
    unfold chkTg at h
    split at h
    · exact ⟨_, _, _, rfl⟩
    · cases h
  | tp3 a b d =>
    unfold chkTg at h
    split at h
    · exact ⟨_, _, _, rfl⟩
    · cases h
  | tp4 a b d f =>
    unfold chkTg at h
    split at h
    · exact ⟨_, _, _, rfl⟩
    · cases h
def cG (X : Cx) (scope : Scope) (tga : Expr) : TG := fun v σ H Q => ∀ (s : Shared) (H0 : Hp) (C : Addr) (ce : List (Str × Addr)) (fp : List Addr), wG (X.blk s H0 scope (compEnvC scope ce C X.env) fp) tga v σ H Q
def cTt (X : Cx) (scope : Scope) (ifs : List Expr) : TT := fun σ H Q => ∀ (s : Shared) (H0 : Hp) (C : Addr) (ce : List (Str × Addr)) (fp : List Addr), wTs (X.blk s H0 scope (compEnvC scope ce C X.env) fp) ifs σ H Q
def cEe (X : Cx) (scope : Scope) (x : Expr) : TE := fun σ H Q => ∀ (s : Shared) (H0 : Hp) (C : Addr) (ce : List (Str × Addr)) (fp : List Addr), wE (X.blk s H0 scope (compEnvC scope ce C X.env) fp) x σ H Q
theorem comp_spec {elt : E} {tg : Tg} {it : It} {cnd : OE} {own : List Nat} (hi : GoodI F cl it) (hcd : GoodC F cl cnd) (he : GoodE F cl elt) {w : Bool} {ast : Expr} (ok : XOk c F cl k W X) (hc : chk c (.comp elt tg it cnd own) ast = true) (wd : Wd S Z H) (re : RE X.K Z H σ e S) {Q : VK}
    (h : RSpec X W cl (repO X.K) (qt (.comp elt tg it cnd own)) (!(w && pl (.comp elt tg it cnd own))) σ S Z H (ev F w (.comp elt tg it cnd own) e) Q) :
    ∃ x tga ita ifs scope pos, ast = .ListComp x [⟨tga, ita, ifs, 0⟩] scope pos ∧ X.calm = true ∧ BlkOk X.N X.env.scope scope (ownB c own) ∧ plainB ita = true ∧ tLc (wI X tga ita) (cG X scope tga) (cTt X scope ifs) (cEe X scope x) ((ownB c own).map (·.2)) σ H Q := by
  unfold chk at hc
  split at hc
  · rename_i x tga ita ifs scope pos
    simp only [Bool.and_eq_true] at hc
    obtain ⟨⟨⟨⟨⟨⟨⟨⟨k1, k2⟩, k3⟩, k4⟩, k5⟩, k6⟩, k7⟩, k8⟩, k9⟩ := hc
    have ho : (ownB c own).map (·.2) = own := of_decide_eq_true k3
    have pair : itPair it = true → ∃ es n p, tga = .Tuple es n p := fun q => isTup_tg k4 (by rw [q] at k7; simpa using k7)
    have tgo : ∀ i ∈ tgS tg, i ∈ own := fun i hi => of_decide_eq_true (List.all_eq_true.mp k8 i hi)
    unfold ev at h
    have bk : BlkOk X.N X.env.scope scope (ownB c own) := by rw [ok.N, ok.sc]; exact blkOk_by k2
    refine ⟨x, tga, ita, ifs, scope, pos, rfl, ok.calm k9, bk, chkI_plain k1, hi X W c k tga ita ok k1 pair σ S Z H e wd re _ (RSpec.bindAt wd .refl (fun ds e1 _ J Z1 H1 S1 Sv1 p1 h1 => ?_) h)⟩
    rw [ho]
    obtain ⟨os, e2, run, h2⟩ := calm_ok h1
    intro D hD
    have room : os.length ≤ sizeLine ∧ RSpec X W cl (repO X.K) (qt (.comp elt tg it cnd own)) (!(w && pl (.comp elt tg it cnd own))) σ S Z H (.ok (.lst os) e2) Q := by
      split at h2
      · rename_i cd
        exact ⟨room_le cd, h2⟩
      · exact h2.elim
    have jok : JOk X.K J ds Z1 H1 := p1.ro
    have nS : ¬ Sv1 D := fun z => not_own_none (p1.apart rfl).2.1 z hD
    have p0 : PR X.K false true σ S Z H e1 (repO X.K (.ref D) (.lst [])) Z1 (upd H1 D (.lst [])) S1 (Sor Sv1 fun a => a = D) := p1.newL (R' := repO X.K (.ref D) (.lst [])) hD True.intro (.lst (S' := fun _ => False) upd_same (.inr rfl) .nil (fun _ z => z.elim) fun z => z)
    have p0' := p0.reS (RE.wipe p0.re own)
    refine ⟨fun i m H' => m = ds.length - i ∧ i ≤ ds.length ∧ ∃ (acc rest : List O) (ei : Env) (Zi : Hp) (Si Svi : AS), os = acc ++ rest ∧ compRun tg own (fun e => evC F cnd e) (fun e => ev F false elt e) (ds.drop i) ei = .ok rest e2 ∧ PR X.K false true (wipe σ own) S Z H ei (repO X.K (.ref D) (.lst acc)) Zi H' Si Svi ∧ Ex Z1 Zi ∧ Tx X.K H1 H',
      ⟨ds.length, by simp, Nat.zero_le _, [], os, _, Z1, S1, _, rfl, run, p0', Ex.refl _, (ex_new hD).tx⟩, ?_⟩
    rintro i m H' ⟨rfl, hi, acc, rest, ei, Zi, Si, Svi, eos, run', p, ez, tx⟩
    obtain ⟨js, jg⟩ := jok Zi H' i ez p.wd.zh tx
    by_cases hlt : i < ds.length
    · obtain ⟨d, hd⟩ : ∃ d, ds[i]? = some d := ⟨ds[i], List.getElem?_eq_getElem hlt⟩
      have hdrop : ds.drop i = d :: ds.drop (i + 1) := by
        rw [List.drop_eq_getElem_cons hlt]
        congr 1
        rw [List.getElem?_eq_getElem hlt] at hd
        exact Option.some.inj hd
      rw [hdrop] at run'
      unfold compRun at run'
      obtain ⟨jgo, jy⟩ := jg d hd
      refine .inr ⟨jgo, fun H2 => ∃ (acc rest : List O) (ei : Env) (Zi : Hp) (Si Svi : AS), os = acc ++ rest ∧ compRun tg own (fun e => evC F cnd e) (fun e => ev F false elt e) (ds.drop (i + 1)) ei = .ok rest e2 ∧ PR X.K false true (wipe σ own) S Z H ei (repO X.K (.ref D) (.lst acc)) Zi H2 Si Svi ∧ Ex Z1 Zi ∧ Tx X.K H1 H2,
        fun H2 nx => ⟨ds.length - (i + 1), by omega, rfl, hlt, nx⟩, fun v H2 yl => ?_⟩
      obtain ⟨y1, y2, y3⟩ := jy v H2 yl
      split at run'
      · cases run'
      · rename_i e3 hset
        obtain ⟨b, e4, hcn, run2⟩ := bind_ok run'
        intro s H0 C ce fp
        have ag0 : wipe (wipe σ own) own = wipe σ own := wipe_ag ag_wipe
        have pg : PR X.K false true (wipe σ own) S Z H (wipeE ei own) (repO X.K (.ref D) (.lst acc)) Zi H2 Si Svi := by
          have pg0 := p.grow y1 (R' := repO X.K (.ref D) (.lst acc)) (RO.stay (Ex.refl _) y1.tx p.ro fun a u _ z => y1 a u z)
          have r := RE.wipe pg0.re own
          rw [ag0] at r
          exact pg0.reS r
        have okb := ok.blk scope s H0 C ce fp
        refine tg_ok okb k4 y3 hset pg.re fun σ2 re2 a2 => ?_
        have a3 := a2.sub tgo
        have w2 : wipe σ2 own = wipe σ own := by rw [wipe_ag a3, ag0]
        refine ⟨w2, fun s H0 C ce fp => ?_⟩
        have okb := ok.blk scope s H0 C ce fp
        have hT := hcd _ _ _ k ifs okb k5 σ2 Si Zi H2 e3 pg.wd re2
        refine hT _ ?_
        rw [hcn]
        intro b' Z3 H3 S3 Sv3 pT
        cases (show b' = b from pT.ro)
        have pg2 := pg.reS re2
        cases b with
        | false =>
          have hp := hold_pr pg2 pT
          have r := RE.wipe hp.re own
          rw [w2] at r
          exact ⟨acc, rest, _, Z3, S3, Svi, eos, run2, hp.reS r, ez.trans pT.gr.z, (tx.trans y1.tx).trans (pT.tx pg.wd)⟩
        | true =>
          obtain ⟨o, e5, hel, run3⟩ := bind_ok run2
          obtain ⟨rest', e6, hrest, run4⟩ := bind_ok run3
          cases run4
          intro s H0 C ce fp
          have okb := ok.blk scope s H0 C ce fp
          refine he false _ _ _ k x okb k6 σ2 S3 Z3 H3 e4 pT.wd pT.re _ ?_
          rw [hel]
          intro y Z4 H4 S4 Sv4 pE
          have pTE := pE.shift (q := false) pT.wd pT.gr fun z => nomatch z
          obtain ⟨xs, g1, g2, g3, g4⟩ := push_pr pg2 pTE
          refine ⟨xs, g1, ?_, acc ++ [o], rest', wipeE e5 own, Z4, S4, _, by rw [eos, List.append_assoc]; rfl, hrest, g3.reS ?_, (ez.trans pT.gr.z).trans pE.gr.z, (tx.trans y1.tx).trans g4⟩
          · have := room.1
            rw [eos, List.length_append, List.length_cons] at this
            omega
          · have r := RE.wipe g3.re own
            rw [w2] at r
            exact r
    · have ei' : i = ds.length := by omega
      subst ei'
      rw [List.drop_length] at run'
      unfold compRun at run'
      cases run'
      refine .inl ⟨js (Nat.le_refl _), ?_⟩
      have eos' : os = acc := by rw [eos, List.append_nil]
      subst eos'
      exact room.2 _ Zi H' Si Svi ((p.reS p.re.unwipe) |> fun z => ⟨z.wd, z.gr, z.re, z.ro, fun _ => z.apart rfl, (fun y => by simp [pl] at y), fun y => by simp [qt] at y⟩)
  · cases hc
theorem good_comp {elt : E} {tg : Tg} {it : It} {cnd : OE} {own : List Nat} (hi : GoodI F cl it) (hcd : GoodC F cl cnd) (he : GoodE F cl elt) : GoodE F cl (.comp elt tg it cnd own) := by
  intro w X W c k ast ok hc σ S Z H e wd re Q h
  obtain ⟨x, tga, ita, ifs, scope, pos, rfl, calm, bk, pi, hl⟩ := comp_spec hi hcd he ok hc wd re h
  exact wE_of (pe_lc calm (by rw [ok.N]; exact ok.nd) pi_wI bk (fun s H0 C ce fp => ⟨fun pins s' σ H v u Q I r h => h s H0 C ce fp pins s' u I r⟩) (fun s H0 C ce fp => ⟨fun pins s' σ H Q I h => h s H0 C ce fp pins s' I⟩) (fun s H0 C ce fp => ⟨fun pins s' σ H Q I h => h s H0 C ce fp pins s' I⟩) (folded_plain pi)) hl
mutual
theorem good : ∀ a : E, GoodE F cl a ∧ (tokB a = true → GoodT F cl a)
  | .var _ => ⟨good_var, fun _ => goodT_plain good_var rfl⟩
  | .mov _ => ⟨good_mov, fun _ => goodT_plain good_mov rfl⟩
  | .int _ => ⟨good_int, fun _ => goodT_plain good_int rfl⟩
  | .str _ => ⟨good_str, fun _ => goodT_plain good_str rfl⟩
  | .bl _ => ⟨good_bl, fun _ => goodT_plain good_bl rfl⟩
  | .non => ⟨good_non, fun _ => goodT_plain good_non rfl⟩
  | .bin _ a b => ⟨good_bin (good a).1 (good b).1, fun _ => goodT_plain (good_bin (good a).1 (good b).1) rfl⟩
  | .neg a => ⟨good_neg (good a).1, fun _ => goodT_plain (good_neg (good a).1) rfl⟩
  | .cmp _ a b => ⟨good_cmp (good a).1 (good b).1, fun _ => goodT_cmp (good a).1 (good b).1⟩
  | .band a b => ⟨good_band (good a).1 (good b).1, fun h => goodT_band ((good a).2 (Bool.and_eq_true_iff.mp h).1) ((good b).2 (Bool.and_eq_true_iff.mp h).2)⟩
  | .bor a b => ⟨good_bor (good a).1 (good b).1, fun h => goodT_bor ((good a).2 (Bool.and_eq_true_iff.mp h).1) ((good b).2 (Bool.and_eq_true_iff.mp h).2)⟩
  | .not a => ⟨good_not (good a).1, fun h => goodT_not ((good a).2 h)⟩
  | .ix a b => ⟨good_ix (good a).1 (good b).1, fun _ => goodT_plain (good_ix (good a).1 (good b).1) rfl⟩
  | .sl a lo hi => ⟨good_sl (good a).1 (goodO lo).1 (goodO hi).1, fun _ => goodT_plain (good_sl (good a).1 (goodO lo).1 (goodO hi).1) rfl⟩
  | .rev a => ⟨good_rev (good a).1, fun _ => goodT_plain (good_rev (good a).1) rfl⟩
  | .tup es => ⟨good_tup (goods es), fun _ => goodT_plain (good_tup (goods es)) rfl⟩
  | .lst es => ⟨good_lst (goods es), fun _ => goodT_plain (good_lst (goods es)) rfl⟩
  | .call _ es => ⟨good_call (goodA es), fun _ => goodT_plain (good_call (goodA es)) rfl⟩
  | .bl1 _ a => ⟨good_bl1 (good a).1, fun _ => goodT_plain (good_bl1 (good a).1) rfl⟩
  | .isi a _ => ⟨good_isi (good a).1, fun _ => goodT_plain (good_isi (good a).1) rfl⟩
  | .isx a _ _ => ⟨good_isx (good a).1, fun _ => goodT_plain (good_isx (good a).1) rfl⟩
  | .frz a => ⟨good_frz (good a).1, fun h => nomatch h⟩
  | .lkv _ => ⟨good_lkv, fun _ => goodT_plain good_lkv rfl⟩
  | .cmpA _ _ b => ⟨good_cmpA (good b).1, fun _ => goodT_cmpA (good b).1⟩
  | .lck a => ⟨good_lck (good a).1, fun h => nomatch h⟩
  | .sdf _ k v => ⟨good_sdf (good k).1 (good v).1, fun _ => goodT_plain (good_sdf (good k).1 (good v).1) rfl⟩
  | .comp elt tg it cnd own => ⟨good_comp (goodI it) (goodO cnd).2 (good elt).1, fun _ => goodT_plain (good_comp (goodI it) (goodO cnd).2 (good elt).1) rfl⟩
  | .join a b => ⟨good_join (good a).1 (good b).1, fun _ => goodT_plain (good_join (good a).1 (good b).1) rfl⟩
  | .mut m p es => ⟨good_mut (goodP p) (goods es), fun _ => goodT_plain (good_mut (goodP p) (goods es)) rfl⟩
  | .lrg a => ⟨good_lrg (good a).1, fun _ => goodT_plain (good_lrg (good a).1) rfl⟩
  | .lrg2 a b => ⟨good_lrg2 (good a).1 (good b).1, fun _ => goodT_plain (good_lrg2 (good a).1 (good b).1) rfl⟩
  | .mutA m i es => ⟨good_mutA (goods es), fun _ => goodT_plain (good_mutA (goods es)) rfl⟩
  | .mm _ a b => ⟨good_mm (good a).1 (good b).1, fun _ => goodT_plain (good_mm (good a).1 (good b).1) rfl⟩
  | .dkn => ⟨good_dkn, fun _ => goodT_plain good_dkn rfl⟩
  | .dtn => ⟨good_dtn, fun _ => goodT_plain good_dtn rfl⟩
  | .srt a _ => ⟨good_srt (good a).1, fun _ => goodT_plain (good_srt (good a).1) rfl⟩
  | .ixA _ b => ⟨good_ixA (good b).1, fun _ => goodT_plain (good_ixA (good b).1) rfl⟩
theorem goodP : ∀ p : Pa, GoodP F cl p
  | .nm _ => goodP_nm
  | .ix p a => goodP_ix (goodP p) (good a).1
theorem goods : ∀ es : Es, GoodEs F cl es
  | .nil => good_enil
  | .cons a r => good_econs (good a).1 (goods r)
theorem goodA : ∀ es : As, GoodAs F cl es
  | .nil => good_anil
  | .cons .val a r => good_aval (good a).1 (goodA r)
  | .cons (.lend _) _ r => good_alend (goodA r)
  | .cons (.borA _) _ r => good_aborA (goodA r)
  | .cons .bor a r => good_abor (good a).1 (goodA r)
theorem goodO : ∀ o : OE, GoodO F cl o ∧ GoodC F cl o
  | .no => ⟨good_ono, good_cno⟩
  | .so a => ⟨good_oso (good a).1, good_cso (good a).2⟩
theorem goodI : ∀ it : It, GoodI F cl it
  | .seq a => good_seq (good a).1
  | .rng1 a => good_rng1 (good a).1
  | .rng2 a b => good_rng2 (good a).1 (good b).1
  | .enum a => good_enum (good a).1
  | .zip a b => good_zip (good a).1 (good b).1
end
end
end Rim
namespace Rim
open PySem PySem.Spec PyProof.Rows L2

/-! ### statements -/
inductive Aop where | add | sub | mul
  deriving DecidableEq
mutual
inductive S where
  | set (i : Nat) (a : E)
  | asg (t : Tg) (a : E)
  | par (i j : Nat) (a b : E)
  | par3 (i j l : Nat) (a b c : E)
  | aug (i : Nat) (o : Aop) (a : E)
  | put (p : Pa) (k a : E)
  | putA (i : Nat) (k a : E)
  | puts2 (i : Nat) (a b v : E)
  | expr (a : E)
  | ite (c : E) (s t : Ss)
  | forr (t : Tg) (it : It) (body : Ss)
  | whl (c : E) (body : Ss)
  | ret (a : E)
  | retN
  | brk
  | cnt
  | pass
  | never
  | forO (t i : Nat) (body : Ss)
  | drop (i : Nat)
  | frz (i : Nat)
  | raise (c m : Str)
  | trys (b : Ss) (h : Str) (i : Nat) (ex : List Str) (s : Ss)
inductive Ss where
  | nil
  | cons (s : S) (r : Ss)
end
/-- how a statement ends -/
inductive Fl where
  | nx | bk | ct
  | rt (o : O)
/-- slots that are written -/
def asE : E → List Nat := fun _ => []
mutual
def asS : S → List Nat
  | .set i _ => [i]
  | .asg t _ => tgS t
  | .par i j _ _ => [i, j]
  | .par3 i j l _ _ _ => [i, j, l]
  | .aug i _ _ => [i]
  | .put _ _ _ => []
  | .putA _ _ _ => []
  | .puts2 _ _ _ _ => []
  | .expr _ => []
  | .ite _ s t => asSs s ++ asSs t
  | .forr t _ b => tgS t ++ asSs b
  | .whl _ b => asSs b
  | .ret _ => []
  | .retN => []
  | .brk => []
  | .cnt => []
  | .pass => []
  | .never => []
  | .forO t _ b => t :: asSs b
  | .drop _ => []
  | .frz _ => []
  | .raise _ _ => []
  | .trys b _ i _ s => i :: (asSs b ++ asSs s)
def asSs : Ss → List Nat
  | .nil => []
  | .cons s r => asS s ++ asSs r
end
/-- a tuple's items -/
def tupOf : O → Option (List O)
  | .fz (.tuple ds) => some (ds.map .fz)
  | .fz (.list ds) => some (ds.map .fz)
  | .tup os => some os
  | .lst os => some os
  | _ => none
def setTgO : Tg → O → Env → Option Env
  | .nm i, o, e => some (e.set i (some o))
  | .tp a b, o, e => match tupOf o with
    | some [x, y] => (setTgO a x e).bind (setTgO b y)
    | _ => none
  | .tp3 a b c, o, e => match tupOf o with
    | some [x, y, z] => (setTgO a x e).bind fun e1 => (setTgO b y e1).bind (setTgO c z)
    | _ => none
  | .tp4 a b c f, o, e => match tupOf o with
    | some [x, y, z, u] => (setTgO a x e).bind fun e1 => (setTgO b y e1).bind fun e2 => (setTgO c z e2).bind (setTgO f u)
    | _ => none
def whlRun (c : Env → Rs Bool) (b : Env → Rs Fl) : Nat → Env → Rs Fl
  | 0, _ => .no
  | n + 1, e => (c e).bind fun r e1 => if r then (b e1).bind fun f e2 => (match f with
      | .bk => .ok .nx e2
      | .rt o => .ok (.rt o) e2
      | _ => whlRun c b n e2) else .ok .nx e1
def forRun (tg : Tg) (b : Env → Rs Fl) : List PyData → Env → Rs Fl
  | [], e => .ok .nx e
  | d :: ds, e => match setTg tg d e with
    | none => .no
    | some e1 => (b e1).bind fun f e2 => (match f with
      | .bk => .ok .nx e2
      | .rt o => .ok (.rt o) e2
      | _ => forRun tg b ds e2)
/-- a walk that lends the items of an owned list, one by one -/
def foORun (t i : Nat) (b : Env → Rs Fl) : List O → List O → Env → Rs Fl
  | dn, [], e => .ok .nx ((e.set i (some (.lst dn))).set t none)
  | dn, o :: r, e => (b (e.set t (some o))).bind fun f e2 => (match f, e2[t]? with
    | .nx, some (some o') => foORun t i b (dn ++ [o']) r (e2.set t none)
    | .ct, some (some o') => foORun t i b (dn ++ [o']) r (e2.set t none)
    | _, _ => .no)
def augO (o : Aop) (x y : O) : Option O := match o, x, y with
  | .add, .fz (.int i), .fz (.int j) => some (.fz (.int (i + j)))
  | .sub, .fz (.int i), .fz (.int j) => some (.fz (.int (i - j)))
  | .mul, .fz (.int i), .fz (.int j) => if cmulB i j then some (.fz (.int (i * j))) else none
  | _, _, _ => none
-- n: how often a while may turn
mutual
def ex (F : Fns) (n : Nat) : S → Env → Rs Fl
  | .set i a, e => (ev F false a e).bind fun o e1 => .ok .nx (e1.set i (some o))
  | .asg t a, e => (ev F false a e).bind fun o e1 => (match setTgO t o e1 with
    | some e2 => .ok .nx e2
    | none => .no)
  | .par i j a b, e => (evEs F (.cons a (.cons b .nil)) e).bind fun os e2 => (match os with
    | [x, y] => .ok .nx ((e2.set i (some x)).set j (some y))
    | _ => .no)
  | .par3 i j l a b c, e => (evEs F (.cons a (.cons b (.cons c .nil))) e).bind fun os e2 => (match os with
    | [x, y, z] => .ok .nx (((e2.set i (some x)).set j (some y)).set l (some z))
    | _ => .no)
  | .aug i op a, e => (match e[i]? with
    | some (some (.fz d)) => (ev F false a e).bind fun y e1 => (match augO op (.fz d) y with
      | some z => .ok .nx (e1.set i (some z))
      | none => .no)
    | _ => .no)
  | .put p k a, e => (ev F false a e).bind fun x e1 => if qt k then (match getP F p e1 with
    | some (i, .lst os, put) => (match ev F false k e1 with
      | .ok (.fz (.int j)) _ => (match ixN os.length j with
        | some m => .ok .nx (e1.set i (some (put (.lst (os.set m x)))))
        | none => .no)
      | _ => .no)
    | some (i, .dk kvs, put) => (match ev F false k e1 with
      | .ok (.fz d) _ => (match keyOf d with
        | some kk => if decide (kvs.length < sizeLine) then .ok .nx (e1.set i (some (put (.dk (put1 kvs kk x))))) else .no
        | none => .no)
      | _ => .no)
    | some (i, .dt kvs, put) => (match ev F false k e1 with
      | .ok (.fz d) _ => (match keyTO d with
        | some kk => if decide (kvs.length < sizeLine) then .ok .nx (e1.set i (some (put (.dt (put1 kvs kk x))))) else .no
        | none => .no)
      | _ => .no)
    | _ => .no) else .no
  | .putA i k a, e => (ev F false a e).bind fun x e1 => (match e1[i]? with
    | some (some _) => (ev F false k e1).bind fun y e2 => (match y, e2[i]? with
      | .fz (.int j), some (some (.lst os)) => (match ixN os.length j with
        | some m => .ok .nx (e2.set i (some (.lst (os.set m x))))
        | none => .no)
      | _, _ => .no)
    | _ => .no)
  | .puts2 i a b v, e => (ev F false v e).bind fun x e1 => if qt a && qt b then (match x, e1[i]? with
    | .fz (.tuple [d1, d2]), some (some (.lst os)) => (match ev F false a e1 with
      | .ok (.fz (.int j)) _ => (match ixN os.length j with
        | some m => (match ev F false b (e1.set i (some (.lst (os.set m (.fz d1))))) with
          | .ok (.fz (.int j2)) _ => (match ixN os.length j2 with
            | some m2 => .ok .nx (e1.set i (some (.lst ((os.set m (.fz d1)).set m2 (.fz d2)))))
            | none => .no)
          | _ => .no)
        | none => .no)
      | _ => .no)
    | _, _ => .no) else .no
  | .expr a, e => (ev F false a e).bind fun _ e1 => .ok .nx e1
  | .ite c s t, e => ((ev F false c e).bind fun x e1 => boolOf x e1).bind fun r e1 => if r then exs F n s e1 else exs F n t e1
  | .forr tg it b, e => (evIt F it e).bind fun ds e1 => forRun tg (fun e => exs F n b e) ds e1
  | .whl c b, e => whlRun (fun e => (ev F false c e).bind fun x e1 => boolOf x e1) (fun e => exs F n b e) n e
  | .ret a, e => (ev F false a e).bind fun o e1 => .ok (.rt o) e1
  | .retN, e => .ok (.rt (.fz .none)) e
  | .brk, e => .ok .bk e
  | .cnt, e => .ok .ct e
  | .pass, e => .ok .nx e
  | .never, _ => .no
  | .forO t i b, e => (match e[i]? with
    | some (some (.lst os)) => foORun t i (fun e => exs F n b e) [] os (e.set i none)
    | _ => .no)
  | .drop i, e => .ok .nx (e.set i none)
  | .frz i, e => (match e[i]? with
    | some (some o) => .ok .nx (e.set i (some (.fz (er o))))
    | _ => .no)
  | .raise c _, e => .ex c e
  | .trys b h i l s, e => (match exs F n b e with
    | .ok f e1 => .ok f e1
    | .ex c e1 => if decide (c ∈ l) then (if excSub c h then (match exs F n s (e1.set i (some (.fz (excD c)))) with
        | .ok f e2 => .ok f (e2.set i none)
        | _ => .no) else .ex c e1) else .no
    | .no => .no)
def exs (F : Fns) (n : Nat) : Ss → Env → Rs Fl
  | .nil, e => .ok .nx e
  | .cons s r, e => (ex F n s e).bind fun f e1 => (match f with
    | .nx => exs F n r e1
    | f => .ok f e1)
end

/-! ### own syntax against the text's -/
def isLc : Expr → Bool
  | .ListComp _ _ _ _ => true
  | _ => false
def isComp : E → Bool
  | .comp _ _ _ _ _ => true
  | _ => false
/-- a value that is stored as it comes: no comprehension as such -/
def storeB : Expr → Bool
  | .ListComp _ _ _ _ => false
  | .SetComp _ _ _ _ => false
  | .DictComp _ _ _ _ _ => false
  | _ => true
/-- a store of a tuple display that isn't turned round: constants all -/
def plainPair (t : Tg) (ast : Expr) : Bool := match ast with
  | .Tuple es _ _ => (match t with
    | .tp4 _ _ _ _ => decide (es.length = 4)
    | _ => es.all (foldedForSure 8))
  | .List _ _ => false
  | _ => true
/-- a target that is no local alone -/
def cellT (c : CT) (ts : List Expr) : Bool := ts.any fun x => match x with
  | .Name id _ => !decide (c.sc.names.lookup id = some .local)
  | _ => false
def cellB (c : CT) (x : Str) : Bool := decide (c.sc.names.lookup x = some .cell)
def localB (c : CT) (x : Str) : Bool := decide (c.sc.names.lookup x = some .local)
def parB (es : List Expr) : Bool := !(es.all (foldedForSure 8)) && !(es.all (constantsAlone 8))
mutual
def chkS (c : CT) : S → Stmt → Bool
  | .set i a, ast => match ast with
    | .Assign [.Name y py] v _ => decide (c.N[i]? = some y) && locB c y && chk c a v && (match v with
      | .ListComp _ _ scope vp => cellB c y || isComp a && localB c y && (py.line == vp.line) && !(scope.names.any fun (n, k) => n == y && (k == .local || k == .cell))
      | v => storeB v)
    | _ => false
  | .asg t a, ast => match ast with
    | .Assign [.Tuple ts tk tp] v _ => chkTg c t (.Tuple ts tk tp) && chk c a v && (plainPair t v || cellT c ts)
    | _ => false
  | .par i j a b, ast => match ast with
    | .Assign [.Tuple [.Name x px, .Name y py] _ _] (.Tuple [u, v] _ _) _ => decide (c.N[i]? = some x) && decide (c.N[j]? = some y) && localB c x && localB c y && decide (i ≠ j) && chk c a u && chk c b v && plainB u && plainB v && parB [u, v] && (px.line == py.line) && decide (x ≠ y) && c.calm
    | _ => false
  | .par3 i j l a b d, ast => match ast with
    | .Assign [.Tuple [.Name x px, .Name y py, .Name z pz] _ _] (.Tuple [u, v, w] _ _) _ => decide (c.N[i]? = some x) && decide (c.N[j]? = some y) && decide (c.N[l]? = some z) && localB c x && localB c y && localB c z && decide (i ≠ j) && decide (i ≠ l) && decide (j ≠ l) && chk c a u && chk c b v && chk c d w && plainB u && plainB v && plainB w && parB [u, v, w] && (px.line == py.line) && (px.line == pz.line) && decide (x ≠ y) && decide (x ≠ z) && decide (y ≠ z) && c.calm
    | _ => false
  | .aug i o a, ast => match ast with
    | .AugAssign (.Name x _) op v _ => decide (c.N[i]? = some x) && locB c x && chk c a v && (match o, op with
      | .add, .Add => true
      | .sub, .Sub => true
      | .mul, .Mult => true
      | _, _ => false)
    | _ => false
  | .put p k a, ast => match ast with
    | .Assign [.Subscript x y _] v _ => chkP c p x && chk c k y && plainB y && chk c a v
    | _ => false
  | .putA i k a, ast => match ast with
    | .Assign [.Subscript (.Name x _) y _] v _ => nmB c i x && chk c k y && plainB y && chk c a v
    | _ => false
  | .puts2 i a b w, ast => match ast with
    | .Assign [.Tuple [.Subscript (.Name x _) y _, .Subscript (.Name x2 _) y2 _] _ _] v _ => nmB c i x && nmB c i x2 && chk c a y && chk c b y2 && plainB y && plainB y2 && chk c w v && storeB v && c.calm
    | _ => false
  | .expr a, ast => match ast with
    | .Expr v _ => chk c a v && storeB v
    | _ => false
  | .ite a s t, ast => match ast with
    | .If v xs ys _ => chk c a v && tokB a && chkSs c s xs && chkSs c t ys
    | _ => false
  | .forr t it b, ast => match ast with
    | .For tg iter body [] _ => chkTg c t tg && chkI c it iter && (!(itPair it) || isTupT t) && chkSs c b body && plainB tg && c.calm
    | _ => false
  | .whl a b, ast => match ast with
    | .While v body [] _ => chk c a v && tokB a && chkSs c b body
    | _ => false
  | .ret a, ast => match ast with
    | .Return (some v) _ => chk c a v
    | _ => false
  | .retN, ast => match ast with
    | .Return none _ => true
    | _ => false
  | .brk, ast => match ast with
    | .Break _ => true
    | _ => false
  | .cnt, ast => match ast with
    | .Continue _ => true
    | _ => false
  | .pass, ast => match ast with
    | .Pass _ => true
    | _ => false
  | .never, _ => true
  | .forO t i b, ast => match ast with
    | .For (.Name x _) (.Name y _) body [] _ => decide (c.N[t]? = some x) && locB c x && nmB c i y && chkSs c b body && decide (t ∉ asSs b) && decide (i ∉ asSs b) && decide (t ≠ i) && c.calm
    | _ => false
  | .drop _, _ => false
  | .frz _, _ => false
  | .raise q m, ast => match ast with
    | .Raise (some (.Call (.Name x _) [.Constant (.str t) _ _] [] _)) none _ => decide (x = q) && glB c x && decide (q ∈ c.ex) && decide (t = m) && c.calm
    | _ => false
  | .trys b h i l s, ast => match ast with
    | .Try body [.ExceptHandler (some (.Name x _)) (some n) (s0 :: st) _] [] [] _ => decide (x = h) && glB c x && decide (h ∈ c.hx) && decide (c.N[i]? = some n) && localB c n && (l.all fun q => decide (q ∈ c.ex)) && chkSs c b body && chkSs { c with calm := false, fs := c.hot } s (s0 :: st)
    | _ => false
def chkSs (c : CT) : Ss → List Stmt → Bool
  | .nil, asts => match asts with
    | [] => true
    | _ => false
  | .cons (.drop _) r, asts => chkSs c r asts
  | .cons (.frz _) r, asts => chkSs c r asts
  | .cons s r, asts => match asts with
    | st :: asts => chkS c s st && chkSs c r asts
    | _ => false
end
end Rim
namespace Rim
open PySem PySem.Spec PyProof.Rows L2

structure SOk (c : CT) (F : Fns) (cl : Str → Value) (k : Nat) (W : WX) (X : Cx) : Prop extends XOk c F cl k W X where
  pass : PassesOwn (model X.prog X.w) X.A X.env X.xe
  kind : X.env.scope.kind = .function
  stk : X.stack = X.env :: X.outer
  frm : X.env.frame = some X.env.locals
  noex : X.ex = []
def wS (X : Cx) (st : Stmt) : TS := fun D σ H => ∀ pins s, Inv X pins σ H s → wpAny (model X.prog X.w) X.A (exec st X.env) (SP X pins D) X.xe s
theorem ps_wS {X : Cx} {st : Stmt} : PS X st (wS X st) := ⟨fun pins s σ H D I h => h pins s I⟩
theorem wS_of {X : Cx} {st : Stmt} {t : TS} (h : PS X st t) {D : Ends} {σ : L2.St} {H : Hp} (q : t D σ H) : wS X st D σ H := fun pins s I => h.run pins s σ H D I q
def wSs (X : Cx) (st : List Stmt) : TS := fun D σ H => ∀ pins s, Inv X pins σ H s → wpAny (model X.prog X.w) X.A (execs st X.env) (SP X pins D) X.xe s
theorem pss_wSs {X : Cx} {st : List Stmt} : PSs X st (wSs X st) := ⟨fun pins s σ H D I h => h pins s I⟩
theorem wSs_of {X : Cx} {st : List Stmt} {t : TS} (h : PSs X st t) {D : Ends} {σ : L2.St} {H : Hp} (q : t D σ H) : wSs X st D σ H := fun pins s I => h.run pins s σ H D I q

def endOf (D : Ends) : Fl → V → L2.St → Hp → Prop
  | .nx, _, σ, H => D.nx σ H
  | .bk, _, σ, H => D.bk σ H
  | .ct, _, σ, H => D.ct σ H
  | .rt _, v, _, H => D.rt v H
def repF (K : PySem.W.Frag) : V → Fl → Hp → Hp → AS → AS → Prop := fun v f Z H _ Sv => match f with
  | .rt o => RO K Z H v o Sv
  | _ => True
def SSpec (X : Cx) (W : WX) (cl : Str → Value) (as : List Nat) (σ : L2.St) (S : AS) (Z H : Hp) (r : Rs Fl) (D : Ends) : Prop :=
  match r with
  | .ok f e' => ∀ σ' v Z' H' S' Sv, Ag as σ σ' → PR X.K false true σ' S Z H e' (repF X.K v f) Z' H' S' Sv → endOf D f v σ' H'
  | .ex c e' => ∀ σ' Z' H' S', Ag as σ σ' → PX X.K σ' S Z H e' Z' H' S' → W (cl c) none σ' H'
  | .no => False
/-- a state without a value -/
def repN : Hp → Hp → AS → AS → Prop := fun _ _ _ _ => True
section
variable {c : CT} {F : Fns} {cl : Str → Value} {k n : Nat} {W : WX} {X : Cx} {σ σ1 σ' : L2.St} {S S1 S2 Sv Sv1 Sv2 T B : AS} {Z H Z1 H1 Z2 H2 : Hp} {e e1 e2 : Env} {a b : E} {x : Str} {K : PySem.W.Frag} {q t : Bool} {R : Hp → Hp → AS → AS → Prop} {as bs : List Nat} {r : Rs Fl} {D : Ends} {v : V} {o : O}
theorem SSpec.shift (g1 : Ag as σ σ1) (w : Wd S1 Z1 H1) (g : Gr S Z H S1 Z1 H1) (h : SSpec X W cl as σ S Z H r D) : SSpec X W cl as σ1 S1 Z1 H1 r D := by
  cases r with
  | ok f e' => exact fun σ' v Z' H' S' Sv a p => h σ' v Z' H' S' Sv (g1.trans a) (p.shift w g fun z => nomatch z)
  | ex c e' => exact fun σ' Z' H' S' a p => h σ' Z' H' S' (g1.trans a) (p.shift w g)
  | no => exact h
theorem SSpec.less (s : ∀ i ∈ bs, i ∈ as) (h : SSpec X W cl as σ S Z H r D) : SSpec X W cl bs σ S Z H r D := by
  cases r with
  | ok f e' => exact fun σ' v Z' H' S' Sv a p => h σ' v Z' H' S' Sv (a.sub s) p
  | ex c e' => exact fun σ' Z' H' S' a p => h σ' Z' H' S' (a.sub s) p
  | no => exact h
theorem SSpec.bindE {α β : Type} {rep : β → α → Hp → Hp → AS → AS → Prop} {r : Rs α} {f : α → Env → Rs Fl} {Q1 : β → Hp → Prop} (k : ∀ a e1, r = .ok a e1 → ∀ b Z1 H1 S1 Sv, PR X.K q t σ S Z H e1 (rep b a) Z1 H1 S1 Sv → SSpec X W cl as σ S Z H (f a e1) D → Q1 b H1)
    (h : SSpec X W cl as σ S Z H (r.bind f) D) : RSpec X W cl rep q t σ S Z H r Q1 := by
  cases r with
  | ok a e1 => exact fun b Z' H' S' Sv p => k a e1 rfl b Z' H' S' Sv p h
  | ex c e' => exact fun Z' H' S' p => h σ Z' H' S' .refl p
  | no => exact h.elim
theorem SSpec.bindEAt {α β : Type} {rep : β → α → Hp → Hp → AS → AS → Prop} {r : Rs α} {f : α → Env → Rs Fl} {Q1 : β → Hp → Prop} (w1 : Wd S1 Z1 H1) (g1 : Gr S Z H S1 Z1 H1) (k : ∀ a e', r = .ok a e' → ∀ b Z' H' S' Sv, PR X.K q t σ S1 Z1 H1 e' (rep b a) Z' H' S' Sv → SSpec X W cl as σ S Z H (f a e') D → Q1 b H')
    (h : SSpec X W cl as σ S Z H (r.bind f) D) : RSpec X W cl rep q t σ S1 Z1 H1 r Q1 := by
  cases r with
  | ok a e1 => exact fun b Z' H' S' Sv p => k a e1 rfl b Z' H' S' Sv p h
  | ex c e' => exact fun Z' H' S' p => h σ Z' H' S' .refl (p.shift w1 g1)
  | no => exact h.elim
theorem PR.st {R' : Hp → Hp → AS → AS → Prop} (w : Wd S1 Z1 H1) (g : Gr S Z H S1 Z1 H1) (r : RE K Z1 H1 σ e1 S1) (h : R' Z1 H1 S1 fun _ => False) : PR K false true σ S Z H e1 R' Z1 H1 S1 (fun _ => False) :=
  ⟨w, g, r, h, fun _ => ⟨fun _ _ z => z, ⟨w.zh, fun _ z => z.elim⟩, g.subR fun _ z => z.elim (fun y => y) fun y => y.elim⟩, (fun z => nomatch z), fun z => nomatch z⟩
/-- a value into a slot -/
theorem PR.store {R' : Hp → Hp → AS → AS → Prop} (p : PR K q true σ S Z H e1 (repO K v o) Z1 H1 S1 Sv) (i : Nat) (h : R' Z1 H1 (Sor Sv S1) fun _ => False) : PR K false true (σ.set i (some v)) S Z H (e1.set i (some o)) R' Z1 H1 (Sor Sv S1) (fun _ => False) := by
  obtain ⟨a1, a2, a3⟩ := p.apart rfl
  exact .st (a2.or p.wd) (a3.subR fun x z => z.elim .inr .inl) (p.re.set p.ro (fun x z y => a1 x y z) i) h
def GoodS (F : Fns) (cl : Str → Value) (n : Nat) (s : Rim.S) : Prop := ∀ (X : Cx) (W : WX) (c : CT) (k : Nat) (st : Stmt), SOk c F cl k W X → chkS c s st = true → ∀ (σ : L2.St) (S : AS) (Z H : Hp) (e : Env) (D : Ends), Wd S Z H → RE X.K Z H σ e S →
  SSpec X W cl (asS s) σ S Z H (ex F n s e) D → wS X st D σ H
def GoodSs (F : Fns) (cl : Str → Value) (n : Nat) (s : Ss) : Prop := ∀ (X : Cx) (W : WX) (c : CT) (k : Nat) (st : List Stmt), SOk c F cl k W X → chkSs c s st = true → ∀ (σ : L2.St) (S : AS) (Z H : Hp) (e : Env) (D : Ends), Wd S Z H → RE X.K Z H σ e S →
  SSpec X W cl (asSs s) σ S Z H (exs F n s e) D → wSs X st D σ H
theorem store_sw {v : Expr} {tg : Option Expr} {l : Nat} {env : PySem.Env} (h : storeB v = true) : swapsWith v tg l env = pure false := by
  cases v <;> first | rfl | (simp [storeB] at h)
theorem sw_cell {elt : Expr} {gs : List Comprehension} {scope : Scope} {pos py : Pos} {y : Str} {l : Nat} {env : PySem.Env} (hy : env.scope.names.lookup y = some .cell) : swapsWith (.ListComp elt gs scope pos) (some (.Name y py)) l env = pure false := by
  have ky : env.kindOf y = some .cell := hy
  have h0 : (some NameKind.cell == some NameKind.local) = false := rfl
  unfold swapsWith
  simp only [ky, h0, Bool.and_false, Bool.false_and]
theorem good_sset {i : Nat} {a : E} : GoodS F cl n (.set i a) := by
  intro X W c k st ok hc σ S Z H e D wd re h
  unfold chkS at hc
  split at hc
  · rename_i y py v pos
    simp only [Bool.and_eq_true] at hc
    obtain ⟨⟨⟨k1, k2⟩, k3⟩, k4⟩ := hc
    obtain ⟨l1, l2⟩ := ok.loc k2
    have hN : X.N[i]? = some y := by rw [ok.N]; exact of_decide_eq_true k1
    have nd : X.N.Nodup := by rw [ok.N]; exact ok.nd
    unfold ex at h
    have fin : ∀ (o : O) (e1 : Env) (v : V) (Z1 H1 : Hp) (S1 Sv : AS), PR X.K (qt a) true σ S Z H e1 (repO X.K v o) Z1 H1 S1 Sv → SSpec X W cl (asS (.set i a)) σ S Z H (.ok .nx (e1.set i (some o))) D → gName i v σ H1 D.nx := fun o e1 v Z1 H1 S1 Sv p h1 =>
      h1 (σ.set i (some v)) .non Z1 H1 _ _ (Ag.set (by simp [asS])) (p.store i True.intro)
    split at k4
    · rename_i elt gens scope vp
      rcases Bool.or_eq_true_iff.mp k4 with j0 | k4
      · have hyc : X.env.scope.names.lookup y = some .cell := by rw [ok.sc]; exact of_decide_eq_true j0
        exact wS_of (ps_set nd hN l1 pe_wE (sw_cell hyc) l2) ((good a).1 false X W c k _ ok.toXOk k3 σ S Z H e wd re _ (SSpec.bindE (fun o e1 _ v Z1 H1 S1 Sv p h1 => fin o e1 v Z1 H1 S1 Sv p h1) h))
      simp only [Bool.and_eq_true, Bool.not_eq_true'] at k4
      obtain ⟨⟨⟨j1, j2⟩, j3⟩, j4⟩ := k4
      cases a <;> try (simp [isComp] at j1; done)
      rename_i elt' tg it cnd own
      obtain ⟨x, tga, ita, ifs, scope', pos', ee, calm, bk, pi, hl⟩ := comp_spec (W := W) (cl := cl) (w := false) (goodI it) (goodO cnd).2 (good elt').1 ok.toXOk k3 wd re (Q := fun v H1 => gName i v σ H1 D.nx) (SSpec.bindE (fun o e1 _ v Z1 H1 S1 Sv p h1 => fin o e1 v Z1 H1 S1 Sv p h1) h)
      cases ee
      have hyl : X.env.scope.names.lookup y = some .local := by rw [ok.sc]; exact of_decide_eq_true j2
      exact wS_of (ps_setLc calm nd hN hyl (sw_true ok.kind hyl j3 j4) pi_wI bk (fun s H0 C ce fp => ⟨fun pins s' σ H v u Q I r h => h s H0 C ce fp pins s' u I r⟩) (fun s H0 C ce fp => ⟨fun pins s' σ H Q I h => h s H0 C ce fp pins s' I⟩) (fun s H0 C ce fp => ⟨fun pins s' σ H Q I h => h s H0 C ce fp pins s' I⟩) (folded_plain pi)) hl
    · exact wS_of (ps_set nd hN l1 pe_wE (store_sw k4) l2) ((good a).1 false X W c k v ok.toXOk k3 σ S Z H e wd re _ (SSpec.bindE (fun o e1 _ v Z1 H1 S1 Sv p h1 => fin o e1 v Z1 H1 S1 Sv p h1) h))
  · cases hc
theorem tupOf_ok {os : List O} (h : tupOf o = some os) (r : RO K Z H v o T) (zh : Ex Z H) : ∃ a xs, v = .ref a ∧ (SqL K H a xs ∨ SqT K H a xs) ∧ ROs K Z H xs os T := by
  unfold tupOf at h
  split at h
  · cases h
    cases r.rd with
    | tup g1 g2 => exact ⟨_, _, rfl, .inr g1.sq, ros_fz g2⟩
  · cases h
    cases r.rd with
    | lst g1 g2 => exact ⟨_, _, rfl, .inl (sqL_ex zh g1), ros_fz g2⟩
  · cases h
    cases r with
    | tup g1 g2 => exact ⟨_, _, rfl, .inr g1.sq, g2⟩
  · cases h
    cases r with
    | lst g1 _ g2 g3 _ => exact ⟨_, _, rfl, .inl (.inl (.inl g1)), g2.up g3⟩
  · cases h
def gTupS (K : PySem.W.Frag) (n : Nat) (t : TGs) : TG := fun v σ H Q => ∃ a xs, v = .ref a ∧ (SqL K H a xs ∨ SqT K H a xs) ∧ xs.length = n ∧ t xs σ H Q
theorem pg_tupS {X : Cx} {es : List Expr} {k : Nat} {pos : Pos} {t : TGs} {n : Nat} (hc : X.calm = true) (h : PGs X es t)
    (hn : (assignEach es X.env).length = n) (hst : (assignEach es X.env).findIdx? (·.1) = none) : PG X (.Tuple es k pos) (gTupS X.K n t) := by
  refine ⟨fun pins s σ H v u Q I r hw => ?_⟩
  obtain ⟨a, xs, e1, hq, hl, hw⟩ := hw
  rcases hq with hq | hq
  · subst e1
    cases r
    obtain ⟨its, rv, ht, hz⟩ := I.list hq
    rw [assign_Tuple]
    refine wpAny_bind (wpAny_standAt ?_)
    unfold unpack
    rw [hst, show (assignEach es X.env).length = its.toArray.size by rw [hn, ← hl, rv.length]; simp]
    refine wpAny_bind (wpAny_holding (PySem.W.kun_itemsOf (I.ok.hd hc) ht.isList fun h' hx => ?_))
    have I1 : Inv X pins σ H { s with heap := h' } := I.kept (t' := s.toks) fun b o e => hx b o (Nat.ne_of_lt (Heap.lt_size e)) e
    exact h.run pins _ σ H xs _ Q I1 (by simpa using rv) hw
  · exact (pg_tup hc h hn hst).run pins s σ H v u Q I r ⟨a, xs, e1, hq, hl, hw⟩
theorem tgO_ok (ok : XOk c F cl k W X) : ∀ {tg : Tg} {ast : Expr}, chkTg c tg ast = true → ∀ {σ : L2.St} {S T : AS} {Z H : Hp} {e e' : Env} {v : V} {o : O} {Q : L2.St → Hp → Prop}, RO X.K Z H v o T → (∀ x, T x → ¬ S x) → setTgO tg o e = some e' → RE X.K Z H σ e S → Ex Z H →
    (∀ σ', RE X.K Z H σ' e' (Sor T S) → Ag (tgS tg) σ σ' → Q σ' H) → wG X ast v σ H Q
  | .nm i, ast, hc, σ, S, T, Z, H, e, e', v, o, Q, ro, dj, hs, re, zh, q => by
    unfold chkTg at hc
    split at hc
    · rename_i x pos
      have hc' := Bool.and_eq_true_iff.mp hc
      obtain ⟨l1, l2⟩ := ok.loc hc'.2
      have hN : X.N[i]? = some x := by rw [ok.N]; exact of_decide_eq_true hc'.1
      cases (Option.some.inj hs)
      exact wG_of (pg_name (by rw [ok.N]; exact ok.nd) hN l1 l2) (q _ (re.set ro dj i) (Ag.set (by simp [tgS])))
    · cases hc
  | .tp a b, ast, hc, σ, S, T, Z, H, e, e', v, o, Q, ro, dj, hs, re, zh, q => by
    unfold chkTg at hc
    split at hc
    · rename_i x y n pos
      simp only [Bool.and_eq_true] at hc
      obtain ⟨⟨⟨⟨k1, k2⟩, p1⟩, p2⟩, hcalm⟩ := hc
      unfold setTgO at hs
      split at hs
      · rename_i o1 o2 ht
        obtain ⟨e1, s1, s2⟩ := Option.bind_eq_some_iff.mp hs
        obtain ⟨ad, xs, rfl, g1, g2⟩ := tupOf_ok ht ro zh
        cases g2 with
        | cons r1 g2 b1 c1 d1 =>
          obtain ⟨v2, rfl, r2⟩ := g2.one
          refine wG_of (pg_tupS (ok.calm hcalm) (pgs_cons pg_wG (pgs_cons pg_wG pgs_nil (by rw [plain_each p2]; rfl)) (by rw [plain_each p1]; rfl)) (n := 2) (by rw [plain_each p1, plain_each p2]; rfl) (by rw [plain_each p1, plain_each p2]; rfl)) ⟨_, _, rfl, g1, rfl, _, _, rfl, ?_⟩
          refine tgO_ok ok k1 r1 (fun x z => dj x (b1 x z)) s1 re zh fun σ1 re1 a1 => ⟨_, _, rfl, tgO_ok ok k2 r2 (fun x z y => y.elim (fun w => d1 x w z) (dj x (c1 x z))) s2 re1 zh fun σ2 re2 a2 => ⟨rfl, ?_⟩⟩
          exact q σ2 (re2.up fun x z => z.elim (fun y => .inl (c1 x y)) fun z => z.imp (b1 x) id) ((a1.sub fun i z => List.mem_append_left _ z).trans (a2.sub fun i z => List.mem_append_right _ z))
      · cases hs
    · cases hc
  | .tp3 a b f, ast, hc, σ, S, T, Z, H, e, e', v, o, Q, ro, dj, hs, re, zh, q => by
    unfold chkTg at hc
    split at hc
    · rename_i x y z n pos
      simp only [Bool.and_eq_true] at hc
      obtain ⟨⟨⟨⟨⟨⟨k1, k2⟩, k3⟩, p1⟩, p2⟩, p3⟩, hcalm⟩ := hc
      unfold setTgO at hs
      split at hs
      · rename_i o1 o2 o3 ht
        obtain ⟨e1, s1, s2'⟩ := Option.bind_eq_some_iff.mp hs
        obtain ⟨e2, s2, s3⟩ := Option.bind_eq_some_iff.mp s2'
        obtain ⟨ad, xs, rfl, g1, g2⟩ := tupOf_ok ht ro zh
        cases g2 with
        | cons r1 g2 b1 c1 d1 =>
          cases g2 with
          | cons r2 g2 b2 c2 d2 =>
            obtain ⟨v3, rfl, r3⟩ := g2.one
            refine wG_of (pg_tupS (ok.calm hcalm) (pgs_cons pg_wG (pgs_cons pg_wG (pgs_cons pg_wG pgs_nil (by rw [plain_each p3]; rfl)) (by rw [plain_each p2]; rfl)) (by rw [plain_each p1]; rfl)) (n := 3) (by rw [plain_each p1, plain_each p2, plain_each p3]; rfl) (by rw [plain_each p1, plain_each p2, plain_each p3]; rfl)) ⟨_, _, rfl, g1, rfl, _, _, rfl, ?_⟩
            refine tgO_ok ok k1 r1 (fun x z => dj x (b1 x z)) s1 re zh fun σ1 re1 a1 => ⟨_, _, rfl, tgO_ok ok k2 r2 (fun x z y => y.elim (fun w => d1 x w (b2 x z)) (dj x (c1 x (b2 x z)))) s2 re1 zh fun σ2 re2 a2 => ⟨_, _, rfl, tgO_ok ok k3 r3 (fun x z y => y.elim (fun w => d2 x w z) fun y => y.elim (fun w => d1 x w (c2 x z)) (dj x (c1 x (c2 x z)))) s3 re2 zh fun σ3 re3 a3 => ⟨rfl, ?_⟩⟩⟩
            exact q σ3 (re3.up fun x z => z.elim (fun y => .inl (c1 x (c2 x y))) fun z => z.elim (fun y => .inl (c1 x (b2 x y))) fun z => z.imp (b1 x) id) (((a1.sub fun i z => List.mem_append_left _ z).trans (a2.sub fun i z => List.mem_append_right _ (List.mem_append_left _ z))).trans (a3.sub fun i z => List.mem_append_right _ (List.mem_append_right _ z)))
      · cases hs
    · cases hc
  | .tp4 a b f g, ast, hc, σ, S, T, Z, H, e, e', v, o, Q, ro, dj, hs, re, zh, q => by
    unfold chkTg at hc
    split at hc
    · rename_i x y z u n pos
      simp only [Bool.and_eq_true] at hc
      obtain ⟨⟨⟨⟨⟨⟨⟨⟨k1, k2⟩, k3⟩, k4⟩, p1⟩, p2⟩, p3⟩, p4⟩, hcalm⟩ := hc
      unfold setTgO at hs
      split at hs
      · rename_i o1 o2 o3 o4 ht
        obtain ⟨e1, s1, s2'⟩ := Option.bind_eq_some_iff.mp hs
        obtain ⟨e2, s2, s3'⟩ := Option.bind_eq_some_iff.mp s2'
        obtain ⟨e3, s3, s4⟩ := Option.bind_eq_some_iff.mp s3'
        obtain ⟨ad, xs, rfl, g1, g2⟩ := tupOf_ok ht ro zh
        cases g2 with
        | cons r1 g2 b1 c1 d1 =>
          cases g2 with
          | cons r2 g2 b2 c2 d2 =>
            cases g2 with
            | cons r3 g2 b3 c3 d3 =>
              obtain ⟨v4, rfl, r4⟩ := g2.one
              refine wG_of (pg_tupS (ok.calm hcalm) (pgs_cons pg_wG (pgs_cons pg_wG (pgs_cons pg_wG (pgs_cons pg_wG pgs_nil (by rw [plain_each p4]; rfl)) (by rw [plain_each p3]; rfl)) (by rw [plain_each p2]; rfl)) (by rw [plain_each p1]; rfl)) (n := 4) (by rw [plain_each p1, plain_each p2, plain_each p3, plain_each p4]; rfl) (by rw [plain_each p1, plain_each p2, plain_each p3, plain_each p4]; rfl)) ⟨_, _, rfl, g1, rfl, _, _, rfl, ?_⟩
              refine tgO_ok ok k1 r1 (fun x z => dj x (b1 x z)) s1 re zh fun σ1 re1 a1 => ⟨_, _, rfl, tgO_ok ok k2 r2 (fun x z y => y.elim (fun w => d1 x w (b2 x z)) (dj x (c1 x (b2 x z)))) s2 re1 zh fun σ2 re2 a2 => ⟨_, _, rfl, tgO_ok ok k3 r3 (fun x z y => y.elim (fun w => d2 x w (b3 x z)) fun y => y.elim (fun w => d1 x w (c2 x (b3 x z))) (dj x (c1 x (c2 x (b3 x z))))) s3 re2 zh fun σ3 re3 a3 =>
                ⟨_, _, rfl, tgO_ok ok k4 r4 (fun x z y => y.elim (fun w => d3 x w z) fun y => y.elim (fun w => d2 x w (c3 x z)) fun y => y.elim (fun w => d1 x w (c2 x (c3 x z))) (dj x (c1 x (c2 x (c3 x z))))) s4 re3 zh fun σ4 re4 a4 => ⟨rfl, ?_⟩⟩⟩⟩
              exact q σ4 (re4.up fun x z => z.elim (fun y => .inl (c1 x (c2 x (c3 x y)))) fun z => z.elim (fun y => .inl (c1 x (c2 x (b3 x y)))) fun z => z.elim (fun y => .inl (c1 x (b2 x y))) fun z => z.imp (b1 x) id)
                ((((a1.sub fun i z => List.mem_append_left _ z).trans (a2.sub fun i z => List.mem_append_right _ (List.mem_append_left _ z))).trans (a3.sub fun i z => List.mem_append_right _ (List.mem_append_right _ (List.mem_append_left _ z)))).trans (a4.sub fun i z => List.mem_append_right _ (List.mem_append_right _ (List.mem_append_right _ z))))
      · cases hs
    · cases hc
end
end Rim
namespace Rim
open PySem PySem.Spec PyProof.Rows L2
section
variable {c : CT} {F : Fns} {cl : Str → Value} {k n : Nat} {W : WX} {X : Cx} {σ σ1 σ' : L2.St} {S S1 S2 Sv Sv1 Sv2 T B : AS} {Z H Z1 H1 Z2 H2 : Hp} {e e1 e2 : Env} {a b : E} {x : Str} {K : PySem.W.Frag} {q t : Bool} {R : Hp → Hp → AS → AS → Prop} {as bs : List Nat} {r : Rs Fl} {D : Ends} {v : V} {o : O}
theorem plain_pair {t : Tg} {v : Expr} {ts : List Expr} {tk : Nat} {tp : Pos} {env : PySem.Env} (hc : chkTg c t (.Tuple ts tk tp) = true) (h : plainPair t v = true) : swappedStores [.Tuple ts tk tp] v env = pure none := by
  cases v with
  | Tuple es ek ep =>
    unfold plainPair at h
    have main : (¬ (ts.length == 2 || ts.length == 3) = true ∨ es.all (foldedForSure 8) = true) := by
      cases t with
      | nm i => unfold chkTg at hc; simp at hc
      | tp a b => exact .inr h
      | tp3 a b c => exact .inr h
      | tp4 a b c d =>
        refine .inl ?_
        unfold chkTg at hc
        split at hc
        · rename_i e; injection e with e1 _ _; rw [e1]; simp
        · cases hc
    unfold swappedStores
    simp only
    split
    · rfl
    · rename_i q
      rcases main with m | m
      · simp at m q
        omega
      · split
        · rfl
        · split
          · rfl
          · first | rfl | rw [if_pos m]
  | _ => rfl
theorem store_tup {v : Expr} {ts : List Expr} {tk : Nat} {tp : Pos} {l : Nat} {env : PySem.Env} : swapsWithSole [.Tuple ts tk tp] v l env = pure false := by
  cases v <;> rfl
theorem filterMap_lt {α β : Type} {f : α → Option β} : ∀ {l : List α}, (∃ x ∈ l, f x = none) → (l.filterMap f).length < l.length
  | [], h => by obtain ⟨x, h, _⟩ := h; cases h
  | a :: l, h => by
    obtain ⟨x, h1, h2⟩ := h
    have le := List.length_filterMap_le f l
    cases hf : f a with
    | none =>
      rw [List.filterMap_cons_none hf, List.length_cons]
      omega
    | some b =>
      rw [List.filterMap_cons_some hf, List.length_cons, List.length_cons]
      rcases List.mem_cons.mp h1 with e | h1
      · subst e
        rw [h2] at hf
        cases hf
      · have := filterMap_lt ⟨x, h1, h2⟩
        omega
theorem cell_pair {c : CT} {v : Expr} {ts : List Expr} {tk : Nat} {tp : Pos} {env : PySem.Env} (h : cellT c ts = true) (hs : env.scope = c.sc) : swappedStores [.Tuple ts tk tp] v env = pure none := by
  cases v with
  | Tuple es ek ep =>
    unfold cellT at h
    obtain ⟨x, hx, hq⟩ := List.any_eq_true.mp h
    unfold swappedStores
    simp only
    split
    · rfl
    · split
      · rfl
      · rename_i q1 q2
        have lt := fun line : Nat => filterMap_lt (l := ts) (f := fun e : Expr => match e with
          | .Name id pos => if env.kindOf id == some .local && pos.line == line then some id else none
          | _ => none) ⟨x, hx, by
            split
            · rename_i id pos
              simp only [Bool.not_eq_true', decide_eq_false_iff_not] at hq
              have : (env.kindOf id == some .local) = false := by
                show (env.scope.names.lookup id == some .local) = false
                rw [hs]
                simpa using hq
              rw [this]
              rfl
            · rfl⟩
        split
        · rfl
        · rename_i q3
          exfalso
          apply q3
          rw [Bool.or_eq_true]
          left
          have := lt ((ts.head?.map (·.pos.line)).getD 0)
          simp only [bne_iff_ne, ne_eq]
          exact Nat.ne_of_lt this
  | _ => rfl
theorem good_sasg {t : Tg} {a : E} : GoodS F cl n (.asg t a) := by
  intro X W c k st ok hc σ S Z H e D wd re h
  unfold chkS at hc
  split at hc
  · rename_i ts tk tp v pos
    simp only [Bool.and_eq_true] at hc
    obtain ⟨⟨k1, k2⟩, k3⟩ := hc
    unfold ex at h
    refine wS_of (ps_asg pe_wE pg_wG store_tup (by rcases Bool.or_eq_true_iff.mp k3 with z | z; exact plain_pair k1 z; exact cell_pair z ok.sc)) ((good a).1 false X W c k v ok.toXOk k2 σ S Z H e wd re _ (SSpec.bindE (fun o e1 _ v Z1 H1 S1 Sv p h1 => ?_) h))
    split at h1
    · rename_i e2 hs
      have p' : PR X.K (qt a) true σ S Z H e1 (repO X.K v o) Z1 H1 S1 Sv := p
      obtain ⟨a1, a2, a3⟩ := p'.apart rfl
      refine tgO_ok ok.toXOk k1 p'.ro (fun x z y => a1 x y z) hs p'.re p'.wd.zh fun σ2 re2 ag => ?_
      exact h1 σ2 .non Z1 H1 _ _ (ag.sub fun i z => z) (.st (a2.or p'.wd) (a3.subR fun x z => z.elim .inr .inl) re2 True.intro)
    · exact h1.elim
  · cases hc
theorem any2 {α : Type} {f : α → Bool} {u v : α} (h1 : f u = false) (h2 : f v = false) : ¬ ([u, v].any f = true) := by simp [h1, h2]
theorem any3 {α : Type} {f : α → Bool} {u v w : α} (h1 : f u = false) (h2 : f v = false) (h3 : f w = false) : ¬ ([u, v, w].any f = true) := by simp [h1, h2, h3]
theorem sw_pair {u v : Expr} {x y : Str} {px py pt p2 : Pos} {kt k2 : Nat} {env : PySem.Env} (hk : env.scope.kind = .function) (hx : env.scope.names.lookup x = some .local) (hy : env.scope.names.lookup y = some .local) (hp : parB [u, v] = true) (hl : (px.line == py.line) = true) (hxy : x ≠ y) (pu : plainB u = true) (pv : plainB v = true) :
    swappedStores [.Tuple [.Name x px, .Name y py] kt pt] (.Tuple [u, v] k2 p2) env = pure (some [x, y]) := by
  have kx : env.kindOf x = some .local := hx
  have ky : env.kindOf y = some .local := hy
  have hb : env.blockKind = .function := by unfold Env.blockKind; rw [hk]; rfl
  unfold parB at hp
  simp only [Bool.and_eq_true, Bool.not_eq_true'] at hp
  have hl2 : py.line = px.line := by rw [beq_iff_eq] at hl; exact hl.symm
  unfold swappedStores
  dsimp only
  rw [if_neg (by simp [hb]), if_neg (any2 (by cases u <;> first | rfl | (simp [plainB] at pu)) (by cases v <;> first | rfl | (simp [plainB] at pv)))]
  simp [kx, ky, hl2, Expr.pos, List.eraseDups_cons, Ne.symm hxy, hp.1, hp.2]
theorem good_spar {i j : Nat} {a b : E} : GoodS F cl n (.par i j a b) := by
  intro X W c k st ok hc σ S Z H e D wd re h
  unfold chkS at hc
  split at hc
  · rename_i x px y py tk tp u v vk vp pos
    simp only [Bool.and_eq_true] at hc
    obtain ⟨⟨⟨⟨⟨⟨⟨⟨⟨⟨⟨⟨k1, k2⟩, k3⟩, k4⟩, k5⟩, k6⟩, k7⟩, k8⟩, k9⟩, k10⟩, k11⟩, k12⟩, k13⟩ := hc
    have hi : X.N[i]? = some x := by rw [ok.N]; exact of_decide_eq_true k1
    have hj : X.N[j]? = some y := by rw [ok.N]; exact of_decide_eq_true k2
    have nd : X.N.Nodup := by rw [ok.N]; exact ok.nd
    have hx : X.env.scope.names.lookup x = some .local := by rw [ok.sc]; exact of_decide_eq_true k3
    have hy : X.env.scope.names.lookup y = some .local := by rw [ok.sc]; exact of_decide_eq_true k4
    unfold ex at h
    refine wS_of (ps_par (ok.calm k13) nd hi hj (of_decide_eq_true k5) hx hy pa_wA (sw_pair ok.kind hx hy k10 k11 (of_decide_eq_true k12) k8 k9) rfl)
      ((goods (.cons a (.cons b .nil))) X W c k [u, v] ok.toXOk (by simp [chks, k6, k7, k8, k9]) σ S Z H e wd re _ (SSpec.bindE (fun os e1 _ vs Z1 H1 S1 Sv p h1 => ?_) h))
    split at h1
    · rename_i ox oy
      obtain ⟨v1, v2, A, B, rfl, r1, r2, s1, s2, d⟩ := (show ROs _ _ _ _ _ _ from p.ro).two
      obtain ⟨a1, a2, a3⟩ := p.apart rfl
      refine ⟨v1, v2, rfl, ?_⟩
      have re2 := (p.re.set r1 (fun x z y => a1 x y (s1 x z)) i).set r2 (fun x z y => y.elim (fun w => d x w z) fun w => a1 x w (s2 x z)) j
      have sU : ∀ x, Sor B (Sor A S1) x → Sor S1 Sv x := fun x z => z.elim (fun y => .inr (s2 x y)) fun z => z.elim (fun y => .inr (s1 x y)) .inl
      exact h1 _ .non Z1 H1 _ _ ((Ag.set (by simp [asS])).trans (Ag.set (by simp [asS]))) (.st ((p.wd.or a2).sub sU) (a3.subR sU) re2 True.intro)
    · exact h1.elim
  · cases hc
theorem sw_tri {u v w : Expr} {x y z : Str} {px py pz pt p2 : Pos} {kt k2 : Nat} {env : PySem.Env} (hk : env.scope.kind = .function) (hx : env.scope.names.lookup x = some .local) (hy : env.scope.names.lookup y = some .local) (hz : env.scope.names.lookup z = some .local) (hp : parB [u, v, w] = true) (hl : (px.line == py.line) = true) (hl3 : (px.line == pz.line) = true)
    (hxy : x ≠ y) (hxz : x ≠ z) (hyz : y ≠ z) (pu : plainB u = true) (pv : plainB v = true) (pw : plainB w = true) :
    swappedStores [.Tuple [.Name x px, .Name y py, .Name z pz] kt pt] (.Tuple [u, v, w] k2 p2) env = pure (some [x, y, z]) := by
  have kx : env.kindOf x = some .local := hx
  have ky : env.kindOf y = some .local := hy
  have kz : env.kindOf z = some .local := hz
  have hb : env.blockKind = .function := by unfold Env.blockKind; rw [hk]; rfl
  unfold parB at hp
  simp only [Bool.and_eq_true, Bool.not_eq_true'] at hp
  have hl2 : py.line = px.line := by rw [beq_iff_eq] at hl; exact hl.symm
  have hl4 : pz.line = px.line := by rw [beq_iff_eq] at hl3; exact hl3.symm
  unfold swappedStores
  dsimp only
  rw [if_neg (by simp [hb]), if_neg (any3 (by cases u <;> first | rfl | (simp [plainB] at pu)) (by cases v <;> first | rfl | (simp [plainB] at pv)) (by cases w <;> first | rfl | (simp [plainB] at pw)))]
  simp [kx, ky, kz, hl2, hl4, Expr.pos, List.eraseDups_cons, Ne.symm hxy, Ne.symm hxz, Ne.symm hyz, hp.1, hp.2]
theorem good_spar3 {i j l : Nat} {a b d : E} : GoodS F cl n (.par3 i j l a b d) := by
  intro X W c k st ok hc σ S Z H e D wd re h
  unfold chkS at hc
  split at hc
  · rename_i x px y py z pz tk tp u v w vk vp pos
    simp only [Bool.and_eq_true] at hc
    obtain ⟨⟨⟨⟨⟨⟨⟨⟨⟨⟨⟨⟨⟨⟨⟨⟨⟨⟨⟨⟨⟨k1, k2⟩, k3⟩, k4⟩, k5⟩, k6⟩, k7⟩, k8⟩, k9⟩, k10⟩, k11⟩, k12⟩, k13⟩, k14⟩, k15⟩, k16⟩, k17⟩, k18⟩, k19⟩, k20⟩, k21⟩, k22⟩ := hc
    have hi : X.N[i]? = some x := by rw [ok.N]; exact of_decide_eq_true k1
    have hj : X.N[j]? = some y := by rw [ok.N]; exact of_decide_eq_true k2
    have hl : X.N[l]? = some z := by rw [ok.N]; exact of_decide_eq_true k3
    have nd : X.N.Nodup := by rw [ok.N]; exact ok.nd
    have hx : X.env.scope.names.lookup x = some .local := by rw [ok.sc]; exact of_decide_eq_true k4
    have hy : X.env.scope.names.lookup y = some .local := by rw [ok.sc]; exact of_decide_eq_true k5
    have hz : X.env.scope.names.lookup z = some .local := by rw [ok.sc]; exact of_decide_eq_true k6
    unfold ex at h
    refine wS_of (ps_par3 (ok.calm k22) nd hi hj hl (of_decide_eq_true k7) (of_decide_eq_true k8) (of_decide_eq_true k9) hx hy hz pa_wA (sw_tri ok.kind hx hy hz k16 k17 k18 (of_decide_eq_true k19) (of_decide_eq_true k20) (of_decide_eq_true k21) k13 k14 k15) rfl)
      ((goods (.cons a (.cons b (.cons d .nil)))) X W c k [u, v, w] ok.toXOk (by simp [chks, k10, k11, k12, k13, k14, k15]) σ S Z H e wd re _ (SSpec.bindE (fun os e1 _ vs Z1 H1 S1 Sv p h1 => ?_) h))
    split at h1
    · rename_i ox oy oz
      obtain ⟨a1, a2, a3⟩ := p.apart rfl
      cases (show ROs _ _ _ _ _ _ from p.ro) with
      | cons r0 rr b0 c0 d0 =>
        obtain ⟨v1, v2, A, B, rfl, r1, r2, s1, s2, d⟩ := rr.two
        refine ⟨_, v1, v2, rfl, ?_⟩
        have re2 := ((p.re.set r0 (fun x z y => a1 x y (b0 x z)) i).set r1 (fun x z y => y.elim (fun w => d0 x w (s1 x z)) fun w => a1 x w (c0 x (s1 x z))) j).set r2 (fun x z y => y.elim (fun w => d x w z) fun y => y.elim (fun w => d0 x w (s2 x z)) fun w => a1 x w (c0 x (s2 x z))) l
        rename_i S01 S02
        have sU : ∀ x, Sor B (Sor A (Sor S01 S1)) x → Sor S1 Sv x := fun x z => z.elim (fun y => .inr (c0 x (s2 x y))) fun z => z.elim (fun y => .inr (c0 x (s1 x y))) fun z => z.elim (fun y => .inr (b0 x y)) .inl
        exact h1 _ .non Z1 H1 _ _ (((Ag.set (by simp [asS])).trans (Ag.set (by simp [asS]))).trans (Ag.set (by simp [asS]))) (.st ((p.wd.or a2).sub sU) (a3.subR sU) re2 True.intro)
    · exact h1.elim
  · cases hc
theorem augO_add {d : PyData} {y o : O} (h : augO .add (.fz d) y = some o) : ∃ i j, d = .int i ∧ y = .fz (.int j) ∧ o = .fz (.int (i + j)) ∧ True := by
  cases d <;> first | (simp [augO] at h; done) | skip
  cases y <;> first | (simp [augO] at h; done) | skip
  rename_i d2
  cases d2 <;> first | (simp [augO] at h; done) | skip
  exact ⟨_, _, rfl, rfl, by simpa [augO] using h.symm, True.intro⟩
theorem augO_sub {d : PyData} {y o : O} (h : augO .sub (.fz d) y = some o) : ∃ i j, d = .int i ∧ y = .fz (.int j) ∧ o = .fz (.int (i - j)) ∧ True := by
  cases d <;> first | (simp [augO] at h; done) | skip
  cases y <;> first | (simp [augO] at h; done) | skip
  rename_i d2
  cases d2 <;> first | (simp [augO] at h; done) | skip
  exact ⟨_, _, rfl, rfl, by simpa [augO] using h.symm, True.intro⟩
theorem augO_mul {d : PyData} {y o : O} (h : augO .mul (.fz d) y = some o) : ∃ i j, d = .int i ∧ y = .fz (.int j) ∧ o = .fz (.int (i * j)) ∧ CMulX i j := by
  cases d <;> first | (simp [augO] at h; done) | skip
  cases y <;> first | (simp [augO] at h; done) | skip
  rename_i d2
  cases d2 <;> first | (simp [augO] at h; done) | skip
  rename_i i0 j0
  have h' : (if cmulB i0 j0 then some (O.fz (.int (i0 * j0))) else none) = some o := h
  split at h'
  · rename_i c
    cases h'
    exact ⟨_, _, rfl, rfl, rfl, cmulB_ok c⟩
  · cases h'
def ipC (C : Int → Int → Prop) (f : Int → Int → Int) : TIp := fun x y H Q => ∃ i j, x = .int i ∧ y = .int j ∧ C i j ∧ Q (.int (f i j)) H
theorem ipC_of {X : Cx} {op : Operator} {f : Int → Int → Int} (h : PIp X op (ipI f)) : PIp X op (ipC (fun _ _ => True) f) := fun pins s σ H x y v u Q I r1 r2 ⟨i, j, e1, e2, _, q⟩ => h pins s σ H x y v u Q I r1 r2 ⟨i, j, e1, e2, q⟩
theorem ip_mulX {X : Cx} : PIp X .Mult (ipC CMulX fun i j => i * j) := by
  intro pins s σ H x y v u Q I r1 r2 h
  obtain ⟨i, j, rfl, rfl, hc, q⟩ := h
  obtain ⟨t, rfl⟩ := r1
  obtain ⟨t', rfl⟩ := r2
  exact imul_int ⟨.int _, H, I.tok _, ⟨_, rfl⟩, q⟩ hc.ok
theorem store_sole {v tg : Expr} {l : Nat} {env : PySem.Env} (h : storeB v = true) : swapsWithSole [tg] v l env = pure false := store_sw h
theorem good_saug {i : Nat} {op : Aop} {a : E} : GoodS F cl n (.aug i op a) := by
  intro X W c k st ok hc σ S Z H e D wd re h
  unfold chkS at hc
  split at hc
  · rename_i x xp op' v pos
    simp only [Bool.and_eq_true] at hc
    obtain ⟨⟨⟨k1, k2⟩, k3⟩, k4⟩ := hc
    obtain ⟨l1, l2⟩ := ok.loc k2
    have hN : X.N[i]? = some x := by rw [ok.N]; exact of_decide_eq_true k1
    have nd : X.N.Nodup := by rw [ok.N]; exact ok.nd
    unfold ex at h
    split at h
    · rename_i d he
      obtain ⟨v0, S1, S2, h1, h2, h3, h4, h5, h6⟩ := re.at he
      have key : ∀ (C : Int → Int → Prop) (f : Int → Int → Int) (ip : PIp X op' (ipC C f)), (∀ y o, augO op (.fz d) y = some o → ∃ i j, d = .int i ∧ y = .fz (.int j) ∧ o = .fz (.int (f i j)) ∧ C i j) → wS X (.AugAssign (.Name x xp) op' v pos) D σ H := fun C f ip hf => by
        refine wS_of (ps_aug nd hN l1 pe_wE ip l2) ⟨v0, h1, (good a).1 false X W c k v ok.toXOk k3 σ S Z H e wd re _ (SSpec.bindE (fun o e1 _ w Z1 H1 S1 Sv p hh => ?_) h)⟩
        split at hh
        · rename_i z hz
          obtain ⟨i', j', e1, e2, e3, hC⟩ := hf _ _ hz
          subst e1 e2 e3
          cases h2.int
          cases (show RO _ _ _ _ _ _ from p.ro).int
          refine ⟨_, _, rfl, rfl, hC, ?_⟩
          have p' : PR X.K (qt a) true σ S Z H _ (repO X.K (.int (f i' j')) (.fz (.int (f i' j')))) Z1 H1 S1 (fun _ => False) := p.flat (.fz (.int _))
          exact hh _ .non Z1 H1 _ _ (Ag.set (by simp [asS])) (p'.store i True.intro)
        · exact hh.elim
      cases op with
      | add =>
        cases op' <;> first
          | exact key (fun _ _ => True) (fun i j => i + j) (ipC_of ip_add) fun y o h => augO_add h
          | (simp at k4)
      | sub =>
        cases op' <;> first
          | exact key (fun _ _ => True) (fun i j => i - j) (ipC_of ip_sub) fun y o h => augO_sub h
          | (simp at k4)
      | mul =>
        cases op' <;> first
          | exact key CMulX (fun i j => i * j) ip_mulX fun y o h => augO_mul h
          | (simp at k4)
    · exact h.elim
  · cases hc
theorem assign_sub {x y : Expr} {pos : Pos} {env : PySem.Env} (h : plainB y = true) : ∀ v, assign (.Subscript x y pos) env v = (do
      let ov ← holding [v] (eval x env)
      let iv ← holding [v, ov] (eval y env)
      standAt pos
      holding [v, ov, iv] (setItem ov iv v)
      release [v, ov, iv] []) := by
  intro v
  cases y <;> first | rfl | (simp [plainB] at h)
theorem ROs.setAt {xs : List V} {os : List O} {A : AS} (h : ROs K Z H xs os A) (r : RO K Z H v o B) (d : ∀ x, A x → ¬ B x) : ∀ m, ROs K Z H (xs.set m v) (os.set m o) (Sor A B) := by
  induction os generalizing xs A with
  | nil => intro m; cases h; exact .nil
  | cons o1 os ih =>
    intro m
    cases h with
    | cons h1 h2 b c d2 =>
      cases m with
      | zero => exact .cons r h2 (fun _ => .inr) (fun x z => .inl (c x z)) fun x z y => d x (c x y) z
      | succ m =>
        refine .cons h1 (ih h2 (fun x q => d x (c x q)) m) (fun x q => .inl (b x q)) (fun x q => q.elim (fun z => .inl (c x z)) .inr) fun x q z => ?_
        rcases z with z | z
        · exact d2 x q z
        · exact d x (b x q) z
theorem store_sub {v x y : Expr} {sp : Pos} {l : Nat} {env : PySem.Env} : swapsWithSole [.Subscript x y sp] v l env = pure false := by
  cases v <;> rfl
theorem good_sput {p : Pa} {kk0 a : E} : GoodS F cl n (.put p kk0 a) := by
  intro X W c k st ok hc σ S Z H e D wd re h
  unfold chkS at hc
  split at hc
  · rename_i x y sp v pos
    simp only [Bool.and_eq_true] at hc
    obtain ⟨⟨⟨k1, k2⟩, k3⟩, k4⟩ := hc
    unfold ex at h
    refine wS_of (ps_asg pe_wE (pg_sub pe_wE pe_wE (set_or set_list (set_dict (by have := ok.hu; omega))) (assign_sub k3)) store_sub rfl) ((good a).1 false X W c k v ok.toXOk k4 σ S Z H e wd re _ (SSpec.bindE (fun o e1 _ v Z1 H1 S1 Sv pr h1 => ?_) h))
    have pr' : PR X.K (qt a) true σ S Z H e1 (repO X.K v o) Z1 H1 S1 Sv := pr
    obtain ⟨a1, a2, a3⟩ := pr'.apart rfl
    split at h1
    · rename_i hqt
      split at h1
      · rename_i i os put hp
        split at h1
        · rename_i j ek hk
          split at h1
          · rename_i m hm
            refine goodP p X W c k x ok.toXOk k1 σ S1 Z1 H1 e1 pr'.wd pr'.re i _ put hp _ fun H2 vv w T1 T2 T x1 hi hole s1 s2 d12 re2 => ?_
            have wd2 := pr'.wd.ex x1
            refine (good kk0).1 false X W c k y ok.toXOk k2 σ S1 Z1 H2 e1 wd2 (pr'.re.stay (Ex.refl _) x1.tx fun a u _ z => x1 a u z) _ ?_
            rw [hk]
            intro u Z3 H3 S3 Sv3 p3
            cases (show RO _ _ _ _ _ _ from p3.ro).int
            obtain ⟨x2, ez, ss⟩ := p3.quiet hqt
            subst ez
            have x12 := x1.trans x2
            have sU : ∀ x, Sor T2 (Sor T1 Sv) x → Sor S1 Sv x := fun x z => z.elim (fun y => .inl (s2 x y)) fun z => z.imp (s1 x) id
            have wr : Wr X.K σ S Z H i (e1.set i none) T1 T2 Sv vv w (.lst os) T put Z3 H3 := ⟨((pr'.wd.or a2).ex x12).sub sU, (a3.trans (pr'.wd.or a2) (Gr.ex x12)).subR sU, re2.stay (Ex.refl _) x2.tx fun a u _ z => x2 a u z, hi, d12, fun x z => a1 x (s1 x z), fun x z => a1 x (s2 x z), hole.stay (Ex.refl _) x2.tx fun a u _ z => x2 a u z⟩
            obtain ⟨ad, xs, A1, g1, g2, g3, g4, g5⟩ := wr.done
            subst g1
            have rv : RO X.K Z3 H3 v o Sv := RO.stay (Ex.refl _) x12.tx pr'.ro fun a u _ z => x12 a u z
            obtain ⟨S', pp⟩ := g5 (xs.set m v) (os.set m o) (Sor A1 Sv) (fun _ => False) .non (.fz .none) (g3.setAt rv (fun x z => a1 x (s1 x (g4 x z))) m) (.fz .non) (fun _ z => z) (fun _ z => z.elim) (fun _ _ z => z)
            refine .inl ⟨ad, xs, j, m, rfl, rfl, g2, by rw [ROs.length g3]; exact hm, ?_⟩
            have e3 : (e1.set i none).set i (some (put (.lst (os.set m o)))) = e1.set i (some (put (.lst (os.set m o)))) := List.set_set ..
            rw [e3] at pp
            exact h1 σ .non Z3 _ S' _ .refl (pp.imp fun _ => True.intro)
          · exact h1.elim
        · exact h1.elim
      · rename_i i kvs put hp
        split at h1
        · rename_i d ek hk
          split at h1
          · rename_i kk hkk
            split at h1
            · rename_i hl
              refine goodP p X W c k x ok.toXOk k1 σ S1 Z1 H1 e1 pr'.wd pr'.re i _ put hp _ fun H2 vv w T1 T2 T x1 hi hole s1 s2 d12 re2 => ?_
              have wd2 := pr'.wd.ex x1
              refine (good kk0).1 false X W c k y ok.toXOk k2 σ S1 Z1 H2 e1 wd2 (pr'.re.stay (Ex.refl _) x1.tx fun a u _ z => x1 a u z) _ ?_
              rw [hk]
              intro u Z3 H3 S3 Sv3 p3
              obtain ⟨x2, ez, ss⟩ := p3.quiet hqt
              subst ez
              have rk := RO.rd0 (show RO _ _ _ _ _ _ from p3.ro)
              have x12 := x1.trans x2
              have sU : ∀ x, Sor T2 (Sor T1 Sv) x → Sor S1 Sv x := fun x z => z.elim (fun y => .inl (s2 x y)) fun z => z.imp (s1 x) id
              have wr : Wr X.K σ S Z H i (e1.set i none) T1 T2 Sv vv w (.dk kvs) T put Z3 H3 := ⟨((pr'.wd.or a2).ex x12).sub sU, (a3.trans (pr'.wd.or a2) (Gr.ex x12)).subR sU, re2.stay (Ex.refl _) x2.tx fun a u _ z => x2 a u z, hi, d12, fun x z => a1 x (s1 x z), fun x z => a1 x (s2 x z), hole.stay (Ex.refl _) x2.tx fun a u _ z => x2 a u z⟩
              obtain ⟨ad, xs, A1, g1, g2, g3, g4, g5⟩ := wr.doneK
              subst g1
              have rv : RO X.K Z3 H3 v o Sv := RO.stay (Ex.refl _) x12.tx pr'.ro fun a u _ z => x12 a u z
              obtain ⟨S', pp⟩ := g5 (put1 xs kk v) (put1 kvs kk o) (Sor A1 Sv) (fun _ => False) .non (.fz .none) (g3.put rv fun x z => a1 x (s1 x (g4 x z))) (.fz .non) (fun _ z => z) (fun _ z => z.elim) (fun _ _ z => z)
              have hl2 : xs.length < sizeLine := by rw [g3.len]; exact of_decide_eq_true hl
              have e3 : (e1.set i none).set i (some (put (.dk (put1 kvs kk o)))) = e1.set i (some (put (.dk (put1 kvs kk o)))) := List.set_set ..
              rw [e3] at pp
              have fin := h1 σ .non Z3 _ S' _ .refl (pp.imp fun _ => True.intro)
              exact .inr (.inl ⟨ad, xs, kk, rfl, g2, key_rd rk hkk, hl2, fin⟩)
            · exact h1.elim
          · exact h1.elim
        · exact h1.elim
      · rename_i i kvs put hp
        split at h1
        · rename_i d ek hk
          split at h1
          · rename_i kk hkk
            split at h1
            · rename_i hl
              refine goodP p X W c k x ok.toXOk k1 σ S1 Z1 H1 e1 pr'.wd pr'.re i _ put hp _ fun H2 vv w T1 T2 T x1 hi hole s1 s2 d12 re2 => ?_
              have wd2 := pr'.wd.ex x1
              refine (good kk0).1 false X W c k y ok.toXOk k2 σ S1 Z1 H2 e1 wd2 (pr'.re.stay (Ex.refl _) x1.tx fun a u _ z => x1 a u z) _ ?_
              rw [hk]
              intro u Z3 H3 S3 Sv3 p3
              obtain ⟨x2, ez, ss⟩ := p3.quiet hqt
              subst ez
              have rk := RO.rd0 (show RO _ _ _ _ _ _ from p3.ro)
              have x12 := x1.trans x2
              have sU : ∀ x, Sor T2 (Sor T1 Sv) x → Sor S1 Sv x := fun x z => z.elim (fun y => .inl (s2 x y)) fun z => z.imp (s1 x) id
              have wr : Wr X.K σ S Z H i (e1.set i none) T1 T2 Sv vv w (.dt kvs) T put Z3 H3 := ⟨((pr'.wd.or a2).ex x12).sub sU, (a3.trans (pr'.wd.or a2) (Gr.ex x12)).subR sU, re2.stay (Ex.refl _) x2.tx fun a u _ z => x2 a u z, hi, d12, fun x z => a1 x (s1 x z), fun x z => a1 x (s2 x z), hole.stay (Ex.refl _) x2.tx fun a u _ z => x2 a u z⟩
              obtain ⟨ad, xs, A1, g1, g2, g3, g4, g5⟩ := wr.doneT
              subst g1
              have rv : RO X.K Z3 H3 v o Sv := RO.stay (Ex.refl _) x12.tx pr'.ro fun a u _ z => x12 a u z
              obtain ⟨S', pp⟩ := g5 (put1 xs kk v) (put1 kvs kk o) (Sor A1 Sv) (fun _ => False) .non (.fz .none) (g3.put rv fun x z => a1 x (s1 x (g4 x z))) (.fz .non) (fun _ z => z) (fun _ z => z.elim) (fun _ _ z => z)
              have hl2 : xs.length < sizeLine := by rw [g3.len]; exact of_decide_eq_true hl
              have e3 : (e1.set i none).set i (some (put (.dt (put1 kvs kk o)))) = e1.set i (some (put (.dt (put1 kvs kk o)))) := List.set_set ..
              rw [e3] at pp
              have fin := h1 σ .non Z3 _ S' _ .refl (pp.imp fun _ => True.intro)
              obtain ⟨b, eb, hb⟩ := keyT_rd rk hkk
              exact .inr (.inr ⟨ad, xs, kk, b, rfl, g2, eb, hb, hl2, fin⟩)
            · exact h1.elim
          · exact h1.elim
        · exact h1.elim
      · exact h1.elim
    · exact h1.elim
  · cases hc
end
end Rim
namespace Rim
open PySem PySem.Spec PyProof.Rows L2
section
variable {c : CT} {F : Fns} {cl : Str → Value} {k n : Nat} {W : WX} {X : Cx} {σ σ1 σ' : L2.St} {S S1 S2 Sv Sv1 Sv2 T B : AS} {Z H Z1 H1 Z2 H2 : Hp} {e e1 e2 : Env} {a b : E} {x : Str} {K : PySem.W.Frag} {q t : Bool} {R : Hp → Hp → AS → AS → Prop} {as bs : List Nat} {r : Rs Fl} {D : Ends} {v : V} {o : O}
theorem good_sputA {i : Nat} {kk a : E} : GoodS F cl n (.putA i kk a) := by
  intro X W c k st ok hc σ S Z H e D wd re h
  unfold chkS at hc
  split at hc
  · rename_i x xp y sp v pos
    simp only [Bool.and_eq_true] at hc
    obtain ⟨⟨⟨k1, k2⟩, k3⟩, k4⟩ := hc
    unfold ex at h
    refine wS_of (ps_asg pe_wE (pg_sub (ok.toXOk.name k1) pe_wE set_list (assign_sub k3)) store_sub rfl) ((good a).1 false X W c k v ok.toXOk k4 σ S Z H e wd re _ (SSpec.bindE (fun o e1 _ v Z1 H1 S1 Sv pr h1 => ?_) h))
    have pr' : PR X.K (qt a) true σ S Z H e1 (repO X.K v o) Z1 H1 S1 Sv := pr
    split at h1
    · rename_i o0 he
      obtain ⟨w0, B1, B2, t1, t2, t3, t4, t5, t6⟩ := pr'.re.at he
      refine ⟨w0, t1, ?_⟩
      refine (good kk).1 false X W c k y ok.toXOk k2 σ S1 Z1 H1 e1 pr'.wd pr'.re _ (SSpec.bindEAt pr'.wd pr'.gr (fun oj e2 _ u Z2 H2 S2 Sv2 p2 h2 => ?_) h1)
      split at h2
      · rename_i os0 j os he2 he2'
        split at h2
        · rename_i m hm
          cases (show RO _ _ _ _ _ _ from p2.ro).int
          have p2' : PR X.K (qt kk) true σ S1 Z1 H1 e2 (repO X.K (.int j) (.fz (.int j))) Z2 H2 S2 Sv2 := p2
          have kp := kept_of pr' p2'
          have rv := fst_kept pr' p2' (.inl rfl)
          obtain ⟨v', A1, A2, j1, j2, j3, j4, j5, j6⟩ := p2'.re.at he2
          rw [t1] at j1
          cases j1
          have sU : ∀ x, Sor A2 (Sor A1 Sv) x → Sor S2 Sv x := fun x z => z.elim (fun y => .inl (j4 x y)) fun z => z.imp (j3 x) id
          have gU : ∀ x, Sor A2 (Sor A1 Sv) x → Sor S2 (Sor Sv Sv2) x := fun x z => (sU x z).imp id .inl
          have wr : Wr X.K σ S Z H i (e2.set i none) A1 A2 Sv _ _ (.lst os) A1 (fun x => x) Z2 H2 := ⟨(p2'.wd.or kp.wd).sub sU, kp.gr.subR gU, j6, t1, j5, fun x z y => (kp.dj x y).1 (j3 x z), fun x z y => (kp.dj x y).1 (j4 x z), .root j2⟩
          obtain ⟨ad, xs, T1, g1, g2, g3, g4, g5⟩ := wr.done
          subst g1
          obtain ⟨S', pp⟩ := g5 (xs.set m v) (os.set m o) (Sor T1 Sv) (fun _ => False) .non (.fz .none) (g3.setAt rv (fun x z y => (kp.dj x y).1 (j3 x (g4 x z))) m) (.fz .non) (fun _ z => z) (fun _ z => z.elim) (fun _ _ z => z)
          refine ⟨ad, xs, j, m, rfl, rfl, g2, by rw [ROs.length g3]; exact hm, ?_⟩
          have e3 : (e2.set i none).set i (some (.lst (os.set m o))) = e2.set i (some (.lst (os.set m o))) := List.set_set ..
          rw [e3] at pp
          exact h2 σ .non Z2 _ S' _ .refl (pp.imp fun _ => True.intro)
        · exact h2.elim
      · exact h2.elim
    · exact h1.elim
  · cases hc
/-- a frozen thing stored in a slot's list -/
theorem store_fz {i m : Nat} {os : List O} {d : PyData} (wd : Wd S Z H) (re : RE K Z H σ e S) (he : e[i]? = some (some (.lst os))) (rd : RD K Z H v d) :
    ∃ ad xs S', σ[i]? = some (some (.ref ad)) ∧ H ad = some (.lst xs) ∧ xs.length = os.length ∧ Wd S' Z (upd H ad (.lst (xs.set m v))) ∧ RE K Z (upd H ad (.lst (xs.set m v))) σ (e.set i (some (.lst (os.set m (.fz d))))) S' ∧ Gr S Z H S' Z (upd H ad (.lst (xs.set m v))) ∧ Tx K H (upd H ad (.lst (xs.set m v))) := by
  obtain ⟨v', A1, A2, j1, j2, j3, j4, j5, j6⟩ := re.at he
  have sU : ∀ x, Sor A2 (Sor A1 fun _ => False) x → S x := fun x z => z.elim (j4 x) fun z => z.elim (j3 x) fun y => y.elim
  have wr : Wr K σ S Z H i (e.set i none) A1 A2 (fun _ => False) v' v' (.lst os) A1 (fun x => x) Z H := ⟨wd.sub sU, Gr.refl.subR sU, j6, j1, j5, fun _ _ z => z, fun _ _ z => z, .root j2⟩
  obtain ⟨ad, xs, T1, g1, g2, g3, g4, g5⟩ := wr.done
  subst g1
  obtain ⟨S', pp⟩ := g5 (xs.set m v) (os.set m (.fz d)) (Sor T1 fun _ => False) (fun _ => False) .non (.fz .none) (g3.setAt (.fz rd) (fun _ _ z => z) m) (.fz .non) (fun _ z => z) (fun _ z => z.elim) (fun _ _ z => z)
  have e3 : (e.set i none).set i (some (.lst (os.set m (.fz d)))) = e.set i (some (.lst (os.set m (.fz d)))) := List.set_set ..
  rw [e3] at pp
  exact ⟨ad, xs, S', j1, g2, ROs.length g3, pp.wd, pp.re, pp.gr, pp.gr.tx wd⟩
theorem set_get {α : Type} {xs : List α} {i : Nat} {x y : α} (h : xs[i]? = some x) : (xs.set i y)[i]? = some y := by
  rw [List.getElem?_set_self]
  rcases Nat.lt_or_ge i xs.length with z | z
  · exact z
  · rw [List.getElem?_eq_none z] at h
    cases h
theorem good_sputs2 {i : Nat} {a b w : E} : GoodS F cl n (.puts2 i a b w) := by
  intro X W c k st ok hc σ S Z H e D wd re h
  unfold chkS at hc
  split at hc
  · rename_i x xp y sp x2 xp2 y2 sp2 tk tp v pos
    simp only [Bool.and_eq_true] at hc
    obtain ⟨⟨⟨⟨⟨⟨⟨⟨k1, k2⟩, k3⟩, k4⟩, k5⟩, k6⟩, k7⟩, k8⟩, k9⟩ := hc
    unfold ex at h
    have sw : swappedStores [.Tuple [.Subscript (.Name x xp) y sp, .Subscript (.Name x2 xp2) y2 sp2] tk tp] v X.env = pure none := by
      cases v with
      | Tuple es ek ep =>
        unfold swappedStores
        simp
      | _ => rfl
    refine wS_of (ps_asg pe_wE (pg_tup (ok.calm k9) (pgs_cons (pg_sub (ok.toXOk.name k1) pe_wE set_list (assign_sub k5)) (pgs_cons (pg_sub (ok.toXOk.name k2) pe_wE set_list (assign_sub k6)) pgs_nil)) (n := 2)) (store_sole k8) sw) ((good w).1 false X W c k v ok.toXOk k7 σ S Z H e wd re _ (SSpec.bindE (fun o e1 _ vv Z1 H1 S1 Sv pr h1 => ?_) h))
    split at h1
    · rename_i hq
      have hq' := Bool.and_eq_true_iff.mp hq
      split at h1
      · rename_i ox0 d1 d2 os he he'
        split at h1
        · rename_i j ej hj
          split at h1
          · rename_i m hm
            split at h1
            · rename_i j2 ej2 hj2
              split at h1
              · rename_i m2 hm2
                cases RO.rd (show RO X.K Z1 H1 _ (.fz (.tuple [d1, d2])) Sv from pr.ro) with
                | tup g1 g2 =>
                  cases g2 with
                  | cons r1 g2 =>
                    cases g2 with
                    | cons r2 g2 =>
                      cases g2
                      rename_i ad0 v1 v2
                      obtain ⟨ad, xs, S2, t1, t2, t3, t4, t5, t6, t7⟩ := store_fz (m := m) pr.wd pr.re he r1
                      refine ⟨ad0, [v1, v2], rfl, g1.sq, rfl, v1, [v2], rfl, ⟨_, t1, ?_⟩⟩
                      refine (good a).1 false X W c k y ok.toXOk k3 σ S1 Z1 H1 e1 pr.wd pr.re _ ?_
                      rw [hj]
                      intro u Z3 H3 S3 Sv3 p3
                      cases (show RO _ _ _ _ _ _ from p3.ro).int
                      obtain ⟨x3, ez3, ss3⟩ := p3.quiet hq'.1
                      subst ez3
                      have re3 := pr.re.stay (Ex.refl _) x3.tx fun a u _ z => x3 a u z
                      have wd3 := pr.wd.ex x3
                      obtain ⟨ad, xs, S2, t1', t2, t3, t4, t5, t6, t7⟩ := store_fz (m := m) wd3 re3 he (r1.mono (Ex.refl _) x3.tx)
                      rw [t1] at t1'
                      cases t1'
                      refine ⟨_, xs, j, m, rfl, rfl, t2, by rw [t3]; exact hm, v2, [], rfl, ⟨_, t1, ?_⟩⟩
                      refine (good b).1 false X W c k y2 ok.toXOk k4 σ S2 Z3 _ _ t4 t5 _ ?_
                      rw [hj2]
                      intro u Z4 H4 S4 Sv4 p4
                      cases (show RO _ _ _ _ _ _ from p4.ro).int
                      obtain ⟨x4, ez4, ss4⟩ := p4.quiet hq'.2
                      subst ez4
                      have re4 := t5.stay (Ex.refl _) x4.tx fun a u _ z => x4 a u z
                      have wd4 := t4.ex x4
                      have r2' := (r2.mono (Ex.refl Z4) x3.tx).mono (Ex.refl _) (t7.trans x4.tx)
                      obtain ⟨ad2, xs2, S5, q1, q2, q3, q4, q5, q6, q7⟩ := store_fz (m := m2) wd4 re4 (set_get he) r2'
                      rw [t1] at q1
                      cases q1
                      rw [List.set_set] at q5
                      refine ⟨_, xs2, j2, m2, rfl, rfl, q2, by rw [q3, List.length_set]; exact hm2, rfl, ?_⟩
                      have g5 : Gr S Z H S5 Z4 _ := pr.gr.trans pr.wd ((Gr.ex x3).trans wd3 (t6.trans t4 ((Gr.ex x4).trans wd4 q6)))
                      exact h1 σ .non Z4 _ S5 _ .refl (.st q4 g5 q5 True.intro)
              · exact h1.elim
            · exact h1.elim
          · exact h1.elim
        · exact h1.elim
      · exact h1.elim
    · exact h1.elim
  · cases hc
end
end Rim
namespace Rim
open PySem PySem.Spec PyProof.Rows L2
/-! ### a caught exception, tracked as a thing of its own -/
section
variable {X : Cx} {pins : List (Addr × Obj)} {σ : L2.St} {H : Hp} {s : Shared}
abbrev excH (a : Addr) (oe : Obj) : HO := .ext fun h => h.get? a = some oe
theorem track {a : Addr} {oe : Obj} (I : Inv X pins σ H s) (ha : s.heap.get? a = some oe) (na : H a = none) (n1 : a ≠ X.env.locals) (n0 : X.s_0.heap.get? a = none) (np : ∀ p ∈ X.pn ++ pins, p.1 ≠ a) (nc : ∀ x c, X.env.cells.lookup x = some c → c ≠ a) :
    Inv X pins σ (upd H a (excH a oe)) s := by
  have other : ∀ {b : Addr} {u : HO}, H b = some u → upd H a (excH a oe) b = some u := fun {b u} q => by
    rw [upd_ne fun z => by rw [z, na] at q; cases q]
    exact q
  have blank : ∀ {b : Addr}, b ≠ a → H b = none → upd H a (excH a oe) b = none := fun {b} n q => by rw [upd_ne n]; exact q
  have un := I.base
  refine { ok := I.ok, os := I.os, bare := I.bare, loc := I.loc, cell := I.cell, len := I.len, free := blank (Ne.symm n1) I.free, freeC := fun x c q => blank (nc x c q) (I.freeC x c q), base := ⟨un.keep, un.slot, fun b o g n x => ?_, un.there, fun b xs q => other (un.tups b xs q), fun b o u q => other (un.frzs b o u q), fun b ps q => ?_⟩, pin := fun p hp => ?_, hok := fun b u q => ?_ }
  · exact blank (fun z => by rw [z, n0] at g; cases g) (un.free b o g n x)
  · obtain ⟨more, m⟩ := un.tbls b ps q
    exact ⟨more, other m⟩
  · obtain ⟨g1, g2, g3, g4, g5⟩ := I.pin p hp
    exact ⟨g1, blank (np p hp) g2, g3, g4, g5⟩
  · by_cases z : b = a
    · subst z
      rw [upd_same] at q
      cases q
      exact ⟨ha, ⟨oe, ha⟩, fun _ _ g k => k oe g⟩
    · rw [upd_ne z] at q
      exact (I.hok b u q).stay (fun _ _ _ g => g) (fun _ g => other g) fun _ _ g => other g
theorem toSuite (I : Inv X pins σ H s) (a : Addr) : Inv (X.suite a (X.pn ++ pins)) [] σ H s :=
  { ok := I.ok.suite a _, os := I.os, bare := I.bare, base := I.base, loc := I.loc, cell := I.cell, free := I.free, freeC := I.freeC, hok := I.hok, len := I.len, pin := fun p hp => I.pin p (by rwa [List.append_nil] at hp) }
theorem ofSuite {a : Addr} (I : Inv (X.suite a (X.pn ++ pins)) [] σ H s) (ok : X.Ok) : Inv X pins σ H s :=
  { ok := ok, os := I.os, bare := I.bare, base := I.base, loc := I.loc, cell := I.cell, free := I.free, freeC := I.freeC, hok := I.hok, len := I.len, pin := fun p hp => I.pin p (by rw [List.append_nil]; exact hp) }
end
/-- what the clause wishes of an exception of the body -/
def wTrk (K : PySem.W.Frag) (c : Value) (i : Nat) (ts : Addr → TS) (Wo : WX) (D : Ends) : WX := fun cls d σ H => ∃ b, PySem.W.exmOne K cls c = some b ∧
  (b = true → ∀ a oe, H a = none → Zc cls d oe → (∃ vs, oe.data = .fields vs) → ts a { nx := fun σ' H' => D.nx (σ'.set i none) H', bk := fun σ' H' => D.bk (σ'.set i none) H', ct := fun σ' H' => D.ct (σ'.set i none) H', rt := D.rt } (σ.set i (some (.ref a))) (upd H a (excH a oe))) ∧
  (b = false → Wo cls d σ H)
section
variable {X : Cx} {x n : Str} {c : Value} {i : Nat} {body st : List Stmt} {s0 : Stmt} {p1 p2 p3 : Pos} {tb : WX → TS} {ts : Addr → TS} {Wo : WX}
theorem ps_tracked (hex : X.ex = []) (e1 : X.stack = X.env :: X.outer) (e2 : X.env.frame = some X.env.locals) (nd : X.N.Nodup) (hi : X.N[i]? = some n) (hl : X.env.kindOf n = some .local) (nm : Names X x c) (tk : Takes X Wo)
    (hb : ∀ (W : WX) (pn : List (Addr × Obj)) (xe : Value → Shared → Prop), Takes (X.tr pn xe) W → PassesOwn (model X.prog X.w) X.A X.env xe → PSs (X.tr pn xe) body (tb W))
    (hs : ∀ (a : Addr) (pn : List (Addr × Obj)), PSs (X.suite a pn) (s0 :: st) (ts a)) :
    PS X (.Try body [.ExceptHandler (some (.Name x p1)) (some n) (s0 :: st) p2] [] [] p3) (fun D σ H => tb (wTrk X.K c i ts Wo D) D σ H) := by
  refine ⟨fun pins s σ H D I h => ?_⟩
  have okX := I.ok
  have frA : X.A.frames = some (X.env :: X.outer) := by rw [okX.frames, e1]
  refine wpAny_Try_except (wpAny_mono ((hb (wTrk X.K c i ts Wo D) (X.pn ++ pins) _ ?_ PassesOwn.looking).run [] s σ H D (I.toTry _) h) ?_ fun _ _ z => z)
  · intro u s' xx
    obtain ⟨q, G, t0, pn2, τ, H2, kc, kd, rfl, I2, ng, u1, sk, nq, eo, eg, bb, he, yes, no⟩ := xx
    have I3 : Inv X pins τ H2 t0 := I2.ofTry okX
    have sk2 : Sky G (X.env :: X.outer) q (Zc kc kd) X.env.locals s'.heap := by rw [← e1]; exact sk
    show wpAny (model X.prog X.w) X.A (noteFrame (.ref q) X.env) _ _ _
    refine Sky.land Zc.steady frA e2 sk2 fun hp fly u2 => ?_
    have I4 : Inv X pins τ H2 { s' with heap := hp } := I3.landed ng fly.1 (u1.trans u2) eo eg
    obtain ⟨ob, vs, g1, z1, d1⟩ := fly.there
    have offFrames : ∀ {h : Heap} {o : Obj} {vs : Array Value}, h.FunFrames G (X.env :: X.outer) → h.get? q = some o → o.data = .fields vs → q ∉ frs (X.env :: X.outer) := fun {h o vs} ff g dd m => by
      obtain ⟨_, o2, g2, nf⟩ := ff.mem m
      rw [g] at g2
      cases g2
      exact nf _ dd
    have off := offFrames fly.2.2.1 g1 d1
    have offL : q ≠ X.env.locals := fun z => off (List.mem_filterMap.mpr ⟨X.env, List.mem_cons_self, by rw [e2, z]⟩)
    have offF : q ∉ X.fs := fun m => by
      obtain ⟨e, me, r⟩ := List.mem_filterMap.mp m
      exact off (List.mem_filterMap.mpr ⟨e, List.mem_cons_of_mem _ me, r⟩)
    have nGround : G.get? q = none := fly.2.1
    have nI : t0.heap.get? q = none := by
      cases r : t0.heap.get? q with
      | none => rfl
      | some o =>
        have := ng q o r (by rw [e1]; exact off)
        rw [nGround] at this
        cases this
    have n0 : X.s_0.heap.get? q = none := by
      cases r : X.s_0.heap.get? q with
      | none => rfl
      | some o =>
        have hx : q ∉ X.ex := fun m => by rw [hex] at m; cases m
        obtain ⟨o2, r2⟩ := I3.base.there q o r hx
        rw [nI] at r2
        cases r2
    have nPins : ∀ p ∈ X.pn ++ pins, p.1 ≠ q := fun p m z => by
      have := (I3.pin p m).1
      rw [z, nI] at this
      cases this
    have nCells : ∀ x c, X.env.cells.lookup x = some c → c ≠ q := fun x c m z => by
      obtain ⟨v, o, w, _⟩ := I3.cell x c m
      rw [z, nI] at w
      cases w
    have S4 := I4.suite g1 d1 nq offL offF
    refine wpAny_handleBy_cons (codeAny_handlers_test ?_) (by intro z; cases z)
    have looksC : PySem.W.Looks (model X.prog X.w) hp (typeOf (.ref q)) kc := fun A Q E s k r => wpAny_typeOf_ref (k _ _ g1) (by rw [z1.1]; exact r)
    have looksM := PySem.W.exm_one (M := model X.prog X.w) I4.kIn looksC he
    have named : ∀ {Q : Value → Shared → Prop} {E : Value → Shared → Prop}, Q c { s' with heap := hp } → wpAny (model X.prog X.w) (X.A.mark (some (.ref q))) (eval (.Name x p1) X.env) Q E { s' with heap := hp } := fun {Q E} r => by
      obtain ⟨hg, hd, hm | ⟨hm, hv, hn⟩⟩ := nm
      · exact ld_glob (X := X.suite q ((q, ob) :: (X.pn ++ pins))) S4 hg hm r hd
      · exact ld_blt (X := X.suite q ((q, ob) :: (X.pn ++ pins))) S4 hg hm hv r hn hd
    refine named (looksM.here ?_)
    cases bb with
    | false =>
      show wpAny _ X.A (handleBy (.ref q) X.env []) _ _ _
      refine wpAny_handleBy_nil ?_
      have fly2 := fly
      obtain ⟨_, _, _, ob5, vs5, T, oT, ts5, g5, z5, d5, tr5, _⟩ := fly2
      unfold PySem.passOn
      refine wpAny_bind (wpAny_field g5 d5 tr5 ?_)
      rw [if_neg (by simp)]
      have onward : wpAny (model X.prog X.w) X.A (setFlight (.ref q) X.env.frame) (fun _ s4 => wpAny (model X.prog X.w) X.A (throw (.ref q) : Sem Flow) (SP X pins D) X.xe s4) X.xe { s' with heap := hp } := by
        rw [e2]
        refine HandSPX.setFlight_upZ fly fun h6 held u6 => wpAny_throw (tk _ _ ?_)
        exact ⟨q, G, t0, pins, τ, H2, kc, kd, rfl, I3, ng, (u1.trans u2).trans u6, .inr (.inr (by rw [e1]; exact held)), nq, eo, eg, no rfl⟩
      first
        | exact wpAny_bind (wpAny_pure (wpAny_bind onward))
        | exact wpAny_bind onward
    | true =>
      refine codeAny_handlers_suite_as (HandSPX.lands_againZ fly fun h7 fly7 u7 => ?_)
      have I7 : Inv X pins τ H2 { s' with heap := h7 } := I3.landed ng fly7.1 ((u1.trans u2).trans u7) eo eg
      obtain ⟨ob7, vs7, g7, z7, d7⟩ := fly7.there
      have T7 := track I7 g7 nq offL n0 nPins nCells
      refine store_ok (X := X.suite q (X.pn ++ pins)) (v := .ref q) (toSuite T7 q) nd hi (.inl hl) rfl (fun s8 S8 => ?_) (.inr hl)
      refine wpAny_mono ((hs q (X.pn ++ pins)).run [] s8 _ _ _ S8 (yes rfl q ob7 nq z7 ⟨_, d7⟩)) (fun f s9 r => ?_) fun _ _ z => z.elim
      have leave : ∀ {σ9 : L2.St} {H9 : Hp} {Q : Shared → Prop}, Inv (X.suite q (X.pn ++ pins)) [] σ9 H9 s9 → (∀ s, Inv X pins (σ9.set i none) H9 s → Q s) → wpAny (model X.prog X.w) X.A (do bindName X.env n .none; unbindBehindTheSuite X.env n p2) (fun _ s => Q s) X.xe s9 :=
        fun {σ9 H9 Q} S9 k => gone_ok (ofSuite S9 okX) nd hi hl k
      cases f with
      | ret u =>
        obtain ⟨v9, σ9, H9, S9, r9, k9⟩ := r
        exact leave S9 fun _ J => ⟨_, _, _, J, r9, k9⟩
      | next =>
        obtain ⟨σ9, H9, S9, k9⟩ := r
        exact leave S9 fun _ J => ⟨_, _, J, k9⟩
      | brk =>
        obtain ⟨σ9, H9, S9, k9⟩ := r
        exact leave S9 fun _ J => ⟨_, _, J, k9⟩
      | cont =>
        obtain ⟨σ9, H9, S9, k9⟩ := r
        exact leave S9 fun _ J => ⟨_, _, J, k9⟩
  · intro f s1 r
    cases f with
    | ret u =>
      obtain ⟨v, σ2, H2, J, r2, k⟩ := r
      exact ⟨v, σ2, H2, J.ofTry okX, r2, k⟩
    | next =>
      obtain ⟨σ2, H2, J, k⟩ := r
      exact wpAny_execs_nil ⟨σ2, H2, J.ofTry okX, k⟩
    | brk =>
      obtain ⟨σ2, H2, J, k⟩ := r
      exact ⟨σ2, H2, J.ofTry okX, k⟩
    | cont =>
      obtain ⟨σ2, H2, J, k⟩ := r
      exact ⟨σ2, H2, J.ofTry okX, k⟩
end
/-! ### raise, try -/
section
variable {c : CT} {F : Fns} {cl : Str → Value} {k n : Nat} {W : WX} {X : Cx} {σ σ' : L2.St} {S S' : AS} {Z H Z' H' : Hp} {e e1 : Env} {D : Ends}
theorem good_sraise {q m : Str} : GoodS F cl n (.raise q m) := by
  intro X W c k st ok hc σ S Z H e D wd re h
  unfold chkS at hc
  split at hc
  · rename_i x p t tk p2 p3 p4
    simp only [Bool.and_eq_true, decide_eq_true_eq] at hc
    obtain ⟨⟨⟨⟨k1, k2⟩, k3⟩, k4⟩, k5⟩ := hc
    subst k1
    obtain ⟨Dc, n1, n2, n3, n4, n5, n6, n7, n8, n9⟩ := ok.exk x k3
    obtain ⟨g1, g2⟩ := ok.gl k2
    unfold ex at h
    refine wS_of (ps_raise (ok.calm k5) ok.tk (pmk_own PySem.F.excBase_ValueError n5 n3 n4 (raises_own n6 n7) g1 g2)) ?_
    have := h σ Z H S .refl ⟨wd, .refl, re⟩
    rw [n2] at this
    exact this
  · cases hc
/-- the heap with the caught exception's object -/
theorem caught {K : PySem.W.Frag} {a Dc : Addr} {oe : Obj} {q : Str} {i : Nat} (p : PX K σ S Z H e Z' H' S') (na : H' a = none) (n1 : PySem.W.nsIn K mainGlobals q = some (some (.ref Dc))) (z : Zc (.ref Dc) none oe) (f : ∃ vs, oe.data = .fields vs) :
    Wd S' (upd Z' a (excH a oe)) (upd H' a (excH a oe)) ∧ Gr S' Z' H' S' (upd Z' a (excH a oe)) (upd H' a (excH a oe)) ∧ RE K (upd Z' a (excH a oe)) (upd H' a (excH a oe)) (σ.set i (some (.ref a))) (e.set i (some (.fz (excD q)))) S' := by
  have nz : Z' a = none := by
    cases r : Z' a with
    | none => rfl
    | some u => rw [p.wd.zh a u r] at na; cases na
  have ns : ¬ S' a := fun s => by
    have := (p.wd.own a s).2
    rw [na] at this
    exact this
  have xz : Ex Z' (upd Z' a (excH a oe)) := ex_new nz
  have xh : Ex H' (upd H' a (excH a oe)) := ex_new na
  refine ⟨⟨fun b u r => ?_, fun b s => ?_⟩, ⟨xz, fun b o r _ => xh b o r, fun b r => ?_⟩, ?_⟩
  · by_cases y : b = a
    · subst y
      rw [upd_same] at r ⊢
      exact r
    · rw [upd_ne y] at r ⊢
      exact p.wd.zh b u r
  · have y : b ≠ a := fun y => ns (y ▸ s)
    rw [upd_ne y, upd_ne y]
    exact p.wd.own b s
  · rcases r with r | r
    · exact .inl r
    · by_cases y : b = a
      · subst y
        exact .inr (.inl na)
      · rw [upd_ne y] at r
        exact .inr (.inr r)
  · have r2 := p.re.stay xz xh.tx fun b u _ r => xh b u r
    have leaf : RO K (upd Z' a (excH a oe)) (upd H' a (excH a oe)) (.ref a) (.fz (excD q)) (fun _ => False) := .fz (.exc upd_same n1 z.1 z.2 f)
    exact (r2.set leaf (fun _ w => w.elim) i).up fun x w => w.elim (fun v => v.elim) fun v => v
theorem endOf_gone {D : Ends} {i : Nat} {f : Fl} {v : V} {τ : L2.St} {H : Hp} (h : endOf D f v (τ.set i none) H) : endOf { nx := fun σ' H' => D.nx (σ'.set i none) H', bk := fun σ' H' => D.bk (σ'.set i none) H', ct := fun σ' H' => D.ct (σ'.set i none) H', rt := D.rt } f v τ H := by
  cases f <;> exact h
theorem good_strys {b s : Ss} {hn : Str} {i : Nat} {l : List Str} (gb : GoodSs F cl n b) (gs : GoodSs F cl n s) : GoodS F cl n (.trys b hn i l s) := by
  intro X W c k st ok hc σ S Z H e D wd re h
  unfold chkS at hc
  split at hc
  · rename_i body x p nm s0 st2 p2 p3
    simp only [Bool.and_eq_true, decide_eq_true_eq] at hc
    obtain ⟨⟨⟨⟨⟨⟨⟨k1, k2⟩, k3⟩, k4⟩, k5⟩, k6⟩, k7⟩, k8⟩ := hc
    subst k1
    have nd : X.N.Nodup := by rw [ok.N]; exact ok.nd
    have hN : X.N[i]? = some nm := by rw [ok.N]; exact k4
    have hlk : X.env.kindOf nm = some .local := by
      show X.env.scope.names.lookup nm = _
      rw [ok.sc]
      exact of_decide_eq_true k5
    obtain ⟨g1, g2⟩ := ok.gl k2
    have names : Names X x (cl x) := ⟨g1, g2, by
      rcases ok.hxk x k3 with ⟨m, _⟩ | ⟨m, b, n, _⟩
      · exact .inl m
      · exact .inr ⟨m, b, n⟩⟩
    unfold ex at h
    refine wS_of (ps_tracked (c := cl x) (tb := fun W' => fun D σ H => ∀ (pn : List (Addr × Obj)) (xe : Value → Shared → Prop), Takes (X.tr pn xe) W' → PassesOwn (model X.prog X.w) X.A X.env xe → wSs (X.tr pn xe) body D σ H) (ts := fun a => fun D σ H => ∀ pn, wSs (X.suite a pn) (s0 :: st2) D σ H)
      ok.noex ok.stk ok.frm nd hN hlk names ok.tk (fun W' pn xe t1 t2 => ⟨fun pins s σ H D I q => q pn xe t1 t2 pins s I⟩) (fun a pn => ⟨fun pins s σ H D I q => q pn pins s I⟩)) ?_
    intro pn xe t1 t2
    have okB : SOk c F cl k (wTrk X.K (cl x) i (fun a => fun D σ H => ∀ pn, wSs (X.suite a pn) (s0 :: st2) D σ H) W D) (X.tr pn xe) :=
      { N := ok.N, nd := ok.nd, sc := ok.sc, fnb := ok.fnb, calm := ok.calm, bl := ok.bl, hu := ok.hu, tk := t1, rm := ok.rm, hots := ok.hots, fs := ok.fs, exk := ok.exk, hxk := ok.hxk, pass := t2, kind := ok.kind, stk := ok.stk, frm := ok.frm, noex := ok.noex }
    refine gb (X.tr pn xe) _ c k body okB k7 σ S Z H e D wd re ?_
    revert h
    cases hr : exs F n b e with
    | no => exact fun h => h
    | ok f e1 => exact fun h σ' v Z' H' S' Sv ag pr => h σ' v Z' H' S' Sv (ag.sub fun j z => by simp [asS, z]) pr
    | ex q e1 =>
      intro h σ' Z' H' S' ag px
      simp only at h
      split at h
      · rename_i hm
        have hce := List.all_eq_true.mp k6 q (of_decide_eq_true hm)
        obtain ⟨Dc, n1, n2, n3, n4, n5, n6, n7, n8, n9⟩ := ok.exk q (of_decide_eq_true hce)
        rw [n2]
        refine ⟨excSub q x, (n9 x k3).2, fun yes a oe na z f => ?_, fun no => ?_⟩
        · rw [if_pos yes] at h
          obtain ⟨w2, gr2, re2⟩ := caught (i := i) px na n1 z f
          intro pn2
          have rmS : Rm k (X.suite a pn2).A := ⟨ok.rm.dp, ok.rm.un⟩
          have fsS : ∀ f n, (f, n) ∈ c.hot → ∃ (fa : Addr) (fd : FuncData) (ps : List Str), (X.suite a pn2).mg f = some (.ref fa) ∧ PySem.W.keepIn X.K (.ref fa) = true ∧ Binds X.K fd ps [] ∧ ps.length = n ∧ FnA X.prog X.w X.K X.mg X.base (L2.CX X.prog X.w) (X.suite a pn2).A fa fd ps (spF X.K cl F f n) := fun f n z => by
            obtain ⟨fa, fd, ps, h1, h2, h3, h4, h5⟩ := ok.hots f n z
            exact ⟨fa, fd, ps, h1, h2, h3, h4, h5 _ rmS⟩
          have okS : SOk { c with calm := false, fs := c.hot } F cl k (fun _ _ _ _ => False) (X.suite a pn2) :=
            { N := ok.N, nd := ok.nd, sc := ok.sc, fnb := ok.fnb, calm := (fun z => Bool.noConfusion z), bl := ok.bl, hu := ok.hu, tk := L2.takes0, rm := rmS, hots := ok.hots, fs := fsS, exk := ok.exk, hxk := ok.hxk, pass := PassesOwn.never, kind := ok.kind, stk := ok.stk, frm := ok.frm, noex := ok.noex }
          refine gs (X.suite a pn2) _ _ k (s0 :: st2) okS k8 _ S' _ _ _ _ w2 re2 ?_
          revert h
          cases hr2 : exs F n s (e1.set i (some (.fz (excD q)))) with
          | no => exact fun h => h
          | ex _ _ => exact fun h => h.elim
          | ok f2 e2 =>
            intro h σ2 v Z2 H2 S2 Sv ag2 pr
            refine endOf_gone (h (σ2.set i none) v Z2 H2 S2 Sv ?_ ?_)
            · exact ((ag.sub fun j z => by simp [asS, z]).trans (Ag.set (by simp [asS]))).trans ((ag2.sub fun j z => by simp [asS, z]).trans (Ag.set (by simp [asS])))
            · exact ((pr.reS (pr.re.forget i none)).shift (q := false) w2 gr2 (fun z => nomatch z)).shift (q := false) px.wd px.gr (fun z => nomatch z)
        · rw [if_neg (by rw [no]; simp)] at h
          have := h σ' Z' H' S' (ag.sub fun j z => by simp [asS, z]) px
          rw [n2] at this
          exact this
      · exact h.elim
  · cases hc
end
end Rim
namespace Rim
open PySem PySem.Spec PyProof.Rows L2
section
variable {c : CT} {F : Fns} {cl : Str → Value} {k n : Nat} {W : WX} {X : Cx} {σ σ1 σ' : L2.St} {S S1 S2 Sv Sv1 Sv2 T B : AS} {Z H Z1 H1 Z2 H2 : Hp} {e e1 e2 : Env} {a b : E} {x : Str} {K : PySem.W.Frag} {q t : Bool} {R : Hp → Hp → AS → AS → Prop} {as bs : List Nat} {r : Rs Fl} {D : Ends} {v : V} {o : O}
theorem good_sexpr {a : E} : GoodS F cl n (.expr a) := by
  intro X W c k st ok hc σ S Z H e D wd re h
  unfold chkS at hc
  split at hc
  · rename_i v pos
    simp only [Bool.and_eq_true] at hc
    unfold ex at h
    refine wS_of (ps_expr pe_wE (store_sw hc.2)) ((good a).1 false X W c k v ok.toXOk hc.1 σ S Z H e wd re _ (SSpec.bindE (fun o e1 _ v Z1 H1 S1 Sv p h1 => ?_) h))
    exact h1 σ .non Z1 H1 S1 _ .refl (.st p.wd p.gr p.re True.intro)
  · cases hc
theorem good_site {a : E} {s t : Ss} (hs : GoodSs F cl n s) (ht : GoodSs F cl n t) : GoodS F cl n (.ite a s t) := by
  intro X W c k st ok hc σ S Z H e D wd re h
  unfold chkS at hc
  split at hc
  · rename_i v xs ys pos
    simp only [Bool.and_eq_true] at hc
    obtain ⟨⟨⟨k1, k2⟩, k3⟩, k4⟩ := hc
    unfold ex at h
    refine wS_of (ps_if pt_wT pss_wSs pss_wSs) ((good a).2 k2 X W c k v ok.toXOk k1 σ S Z H e wd re _ (SSpec.bindE (fun r e1 _ b Z1 H1 S1 Sv p h1 => ?_) h))
    cases (show b = r from p.ro)
    have h2 := h1.shift .refl p.wd p.gr
    cases r with
    | true => exact hs X W c k xs ok k3 σ S1 Z1 H1 e1 D p.wd p.re (h2.less fun i z => by simp [asS, z])
    | false => exact ht X W c k ys ok k4 σ S1 Z1 H1 e1 D p.wd p.re (h2.less fun i z => by simp [asS, z])
  · cases hc
/-- a turn's end in a loop -/
theorem SSpec.turn {as2 : List Nat} {go : Env → Rs Fl} {D' : Ends} (hbk : D'.bk = D.nx) (hrt : D'.rt = D.rt)
    (h : SSpec X W cl as σ S Z H (r.bind fun f e2 => (match f with
      | .bk => .ok .nx e2
      | .rt o => .ok (.rt o) e2
      | _ => go e2)) D) (a1 : Ag as σ σ1) (w : Wd S1 Z1 H1) (g : Gr S Z H S1 Z1 H1) (s : ∀ i ∈ as2, i ∈ as)
    (again : ∀ f e2, r = .ok f e2 → (f = .nx ∨ f = .ct) → ∀ σ' Z' H' S', Ag as2 σ1 σ' → PR X.K false true σ' S1 Z1 H1 e2 repN Z' H' S' (fun _ => False) → (f = .nx → D'.nx σ' H') ∧ (f = .ct → D'.ct σ' H')) : SSpec X W cl as2 σ1 S1 Z1 H1 r D' := by
  have h' := (h.shift a1 w g).less s
  cases r with
  | no => exact h
  | ex c e' => exact h'
  | ok f e' =>
    cases f with
    | nx => exact fun σ' v Z' H' S' Sv a p => (again .nx e' rfl (.inl rfl) σ' Z' H' S' a (.st p.wd p.gr p.re True.intro)).1 rfl
    | ct => exact fun σ' v Z' H' S' Sv a p => (again .ct e' rfl (.inr rfl) σ' Z' H' S' a (.st p.wd p.gr p.re True.intro)).2 rfl
    | bk =>
      intro σ' v Z' H' S' Sv a p
      have q := h' σ' v Z' H' S' Sv a p
      show D'.bk σ' H'
      rw [hbk]
      exact q
    | rt o =>
      intro σ' v Z' H' S' Sv a p
      have q := h' σ' v Z' H' S' Sv a p
      show D'.rt v H'
      rw [hrt]
      exact q
theorem good_swhl {a : E} {s : Ss} (hs : GoodSs F cl n s) : GoodS F cl n (.whl a s) := by
  intro X W c k st ok hc σ S Z H e D wd re h
  unfold chkS at hc
  split at hc
  · rename_i v body pos
    simp only [Bool.and_eq_true] at hc
    obtain ⟨⟨k1, k2⟩, k3⟩ := hc
    unfold ex at h
    generalize hr : whlRun (fun e => (ev F false a e).bind fun x e1 => boolOf x e1) (fun e => exs F n s e) n e = r at h
    refine wS_of (ps_while ok.pass pt_wT pss_wSs) ⟨fun m σi Hi => ∃ (ei : Env) (Zi : Hp) (Si : AS), whlRun (fun e => (ev F false a e).bind fun x e1 => boolOf x e1) (fun e => exs F n s e) m ei = r ∧ PR X.K false true σi S Z H ei repN Zi Hi Si (fun _ => False) ∧ Ag (asS (.whl a s)) σ σi, ⟨n, e, Z, S, hr, .st wd .refl re True.intro, .refl⟩, ?_⟩
    rintro m σi Hi ⟨ei, Zi, Si, run, p, ag⟩
    cases m with
    | zero =>
      rw [← run] at h
      exact h.elim
    | succ m =>
      have h2 : SSpec X W cl (asS (.whl a s)) σi Si Zi Hi r D := h.shift ag p.wd p.gr
      rw [← run] at h2
      unfold whlRun at h2 run
      refine (good a).2 k2 X W c k v ok.toXOk k1 σi Si Zi Hi ei p.wd p.re _ (SSpec.bindE (fun rb e1 hrb b Z1 H1 S1 Sv p1 h3 => ?_) h2)
      cases (show b = rb from p1.ro)
      rw [hrb] at run
      cases rb with
      | false => exact h3 σi .non Z1 H1 S1 _ .refl (.st p1.wd p1.gr p1.re True.intro)
      | true =>
        have p01 : PR X.K false true σi S Z H e1 repN Z1 H1 S1 (fun _ => False) := (PR.st p1.wd (p.gr.trans p.wd p1.gr) p1.re True.intro)
        refine ⟨fun σ' H' => ∃ (ei : Env) (Zi : Hp) (Si : AS), whlRun (fun e => (ev F false a e).bind fun x e1 => boolOf x e1) (fun e => exs F n s e) m ei = r ∧ PR X.K false true σ' S Z H ei repN Zi H' Si (fun _ => False) ∧ Ag (asS (.whl a s)) σ σ', fun σ' H' q => ⟨m, by omega, q⟩, ?_⟩
        have run2 : ((exs F n s e1).bind fun f e2 => (match f with
          | .bk => .ok .nx e2
          | .rt o => .ok (.rt o) e2
          | _ => whlRun (fun e => (ev F false a e).bind fun x e1 => boolOf x e1) (fun e => exs F n s e) m e2)) = r := run
        refine hs X W c k body ok k3 σi S1 Z1 H1 e1 _ p1.wd p1.re (SSpec.turn (D := D) rfl rfl h3 .refl p1.wd p1.gr (fun i z => z) fun f e2 hf hfl σ' Z' H' S' a2 p2 => ?_)
        rw [hf] at run2
        have nxt : ∃ (ei : Env) (Zi : Hp) (Si : AS), whlRun (fun e => (ev F false a e).bind fun x e1 => boolOf x e1) (fun e => exs F n s e) m ei = r ∧ PR X.K false true σ' S Z H ei repN Zi H' Si (fun _ => False) ∧ Ag (asS (.whl a s)) σ σ' :=
          ⟨e2, Z', S', by rcases hfl with e | e <;> (subst e; exact run2), .st p2.wd (p01.gr.trans p1.wd p2.gr) p2.re True.intro, ag.trans a2⟩
        exact ⟨fun _ => nxt, fun _ => nxt⟩
  · cases hc
theorem good_sfor {tg : Tg} {it : It} {s : Ss} (hs : GoodSs F cl n s) : GoodS F cl n (.forr tg it s) := by
  intro X W c k st ok hc σ S Z H e D wd re h
  unfold chkS at hc
  split at hc
  · rename_i tga iter body pos
    simp only [Bool.and_eq_true] at hc
    obtain ⟨⟨⟨⟨⟨k1, k2⟩, k3⟩, k4⟩, k5⟩, k6⟩ := hc
    have pair : itPair it = true → ∃ es n p, tga = .Tuple es n p := fun q => isTup_tg k1 (by rw [q] at k3; simpa using k3)
    unfold ex at h
    refine wS_of (ps_for ok.pass (ok.calm k6) pi_wI pg_wG pss_wSs (folded_plain (chkI_plain k2))) ((goodI it) X W c k tga iter ok.toXOk k2 pair σ S Z H e wd re _ (SSpec.bindE (fun ds e1 _ J Z1 H1 S1 Sv1 p1 h1 => ?_) h))
    have jok : JOk X.K J ds Z1 H1 := p1.ro
    generalize hr : forRun tg (fun e => exs F n s e) ds e1 = r at h1
    refine ⟨fun i m σi Hi => m = ds.length - i ∧ i ≤ ds.length ∧ ∃ (ei : Env) (Zi : Hp) (Si : AS), forRun tg (fun e => exs F n s e) (ds.drop i) ei = r ∧ PR X.K false true σi S Z H ei repN Zi Hi Si (fun _ => False) ∧ Ag (asS (.forr tg it s)) σ σi ∧ Ex Z1 Zi ∧ Tx X.K H1 Hi,
      ⟨ds.length, by simp, Nat.zero_le _, e1, Z1, S1, by rw [List.drop_zero]; exact hr, .st p1.wd p1.gr p1.re True.intro, .refl, Ex.refl _, Tx.refl⟩, ?_⟩
    rintro i m σi Hi ⟨rfl, hi, ei, Zi, Si, run, p, ag, ez, tx⟩
    obtain ⟨js, jg⟩ := jok Zi Hi i ez p.wd.zh tx
    have h2 : SSpec X W cl (asS (.forr tg it s)) σi Si Zi Hi r D := h1.shift ag p.wd p.gr
    by_cases hlt : i < ds.length
    · obtain ⟨d, hd⟩ : ∃ d, ds[i]? = some d := ⟨ds[i], List.getElem?_eq_getElem hlt⟩
      have hdrop : ds.drop i = d :: ds.drop (i + 1) := by
        rw [List.drop_eq_getElem_cons hlt]
        congr 1
        rw [List.getElem?_eq_getElem hlt] at hd
        exact Option.some.inj hd
      rw [hdrop] at run
      unfold forRun at run
      obtain ⟨jgo, jy⟩ := jg d hd
      refine .inr ⟨jgo, fun σ' H' => ∃ (ei : Env) (Zi : Hp) (Si : AS), forRun tg (fun e => exs F n s e) (ds.drop (i + 1)) ei = r ∧ PR X.K false true σ' S Z H ei repN Zi H' Si (fun _ => False) ∧ Ag (asS (.forr tg it s)) σ σ' ∧ Ex Z1 Zi ∧ Tx X.K H1 H', fun σ' H' q => ⟨ds.length - (i + 1), by omega, rfl, hlt, q⟩, fun v H2 yl => ?_⟩
      obtain ⟨y1, y2, y3⟩ := jy v H2 yl
      split at run
      · rw [← run] at h2
        exact h2.elim
      · rename_i e3 hset
        have wd2 := p.wd.ex y1
        have re2 := p.re.stay (Ex.refl _) y1.tx fun a u _ z => y1 a u z
        refine tg_ok ok.toXOk k1 y3 hset re2 fun σ2 re3 a2 => ?_
        rw [← run] at h2
        have a3 : Ag (asS (.forr tg it s)) σi σ2 := a2.sub fun i z => by simp [asS, z]
        refine hs X W c k body ok k4 σ2 Si Zi H2 e3 _ wd2 re3 (SSpec.turn (D := D) rfl rfl h2 a3 wd2 (Gr.ex y1) (fun i z => by simp [asS, z]) fun f e2 hf hfl σ' Z' H' S' a4 p2 => ?_)
        rw [hf] at run
        have nxt : ∃ (ei : Env) (Zi : Hp) (Si : AS), forRun tg (fun e => exs F n s e) (ds.drop (i + 1)) ei = r ∧ PR X.K false true σ' S Z H ei repN Zi H' Si (fun _ => False) ∧ Ag (asS (.forr tg it s)) σ σ' ∧ Ex Z1 Zi ∧ Tx X.K H1 H' :=
          ⟨e2, Z', S', by rcases hfl with e | e <;> (subst e; exact run), .st p2.wd ((p.gr.trans p.wd (Gr.ex y1)).trans wd2 p2.gr) p2.re True.intro, (ag.trans a3).trans (a4.sub fun i z => by simp [asS, z]), ez.trans p2.gr.z, (tx.trans y1.tx).trans (p2.gr.tx wd2)⟩
        exact ⟨fun _ => nxt, fun _ => nxt⟩
    · have ei' : i = ds.length := by omega
      subst ei'
      rw [List.drop_length] at run
      unfold forRun at run
      rw [← run] at h2
      exact .inl ⟨js (Nat.le_refl _), h2 σi .non Zi Hi Si _ .refl (.st p.wd .refl p.re True.intro)⟩
  · cases hc
theorem good_sforO {t i : Nat} {s : Ss} (hs : GoodSs F cl n s) : GoodS F cl n (.forO t i s) := by
  intro X W c k st ok hc σ S Z H e D wd re h
  unfold chkS at hc
  split at hc
  · rename_i x px y py body pos
    simp only [Bool.and_eq_true] at hc
    obtain ⟨⟨⟨⟨⟨⟨⟨k1, k2⟩, k3⟩, k4⟩, k5⟩, k6⟩, k7⟩, k8⟩ := hc
    have nt : t ∉ asSs s := of_decide_eq_true k5
    have ni : i ∉ asSs s := of_decide_eq_true k6
    have ti : t ≠ i := of_decide_eq_true k7
    obtain ⟨l1, l2⟩ := ok.loc k2
    have hN : X.N[t]? = some x := by rw [ok.N]; exact of_decide_eq_true k1
    have nd : X.N.Nodup := by rw [ok.N]; exact ok.nd
    unfold ex at h
    split at h
    · rename_i os he
      obtain ⟨v, S1, S2, a1, a2, a3, a4, a5, a6⟩ := re.at he
      generalize hr : foORun t i (fun e => exs F n s e) [] os (e.set i none) = r at h
      refine wS_of (ps_for ok.pass (ok.calm k8) (pi_seq (ok.name k3)) (pg_name nd hN l1 l2) pss_wSs (folded_plain rfl)) ⟨v, a1, ?_⟩
      cases a2 with
      | lst g1 g2 g3 g4 g5 =>
        rename_i ad xs T1
        have len := ROs.length g3
        refine .inl ⟨ad, xs, rfl, .inl (.inl g1), fun j m σj Hj => m = xs.length - j ∧ j ≤ xs.length ∧ ∃ (dn : List O) (ej : Env) (Zj : Hp) (Sj Tj : AS), dn.length = j ∧ foORun t i (fun e => exs F n s e) dn (os.drop j) ej = r ∧ Hj ad = some (.lst xs) ∧ ROs X.K Zj Hj xs (dn ++ os.drop j) Tj ∧ ¬ Tj ad ∧
            Wd (Sor Sj (fun x => x = ad ∨ Tj x)) Zj Hj ∧ Gr S Z H (Sor Sj (fun x => x = ad ∨ Tj x)) Zj Hj ∧ RE X.K Zj Hj σj ej Sj ∧ (∀ x, (x = ad ∨ Tj x) → ¬ Sj x) ∧ Ag (asS (.forO t i s)) σ σj,
          ⟨xs.length, by simp, Nat.zero_le _, [], _, Z, S2, T1, rfl, by rw [List.drop_zero]; exact hr, g1, by rw [List.drop_zero]; exact g3, g5, ?_, ?_, a6, ?_, .refl⟩, ?_⟩
        · exact wd.sub fun x z => z.elim (a4 x) fun z => z.elim (fun y => a3 x (by rw [y]; exact g2)) fun y => a3 x (g4 x y)
        · exact Gr.refl.subR fun x z => z.elim (a4 x) fun z => z.elim (fun y => a3 x (by rw [y]; exact g2)) fun y => a3 x (g4 x y)
        · exact fun x z => z.elim (fun y => a5 x (by rw [y]; exact g2)) fun y => a5 x (g4 x y)
        · rintro j m σj Hj ⟨rfl, hj, dn, ej, Zj, Sj, Tj, hdn, runj, hH, ros, nT, wdj, grj, rej, dj, ag⟩
          have hq : SqL X.K Hj ad xs := .inl (.inl hH)
          have sit : σj[i]? = some (some (.ref ad)) := (ag.2 i (by simp [asS, ni, Ne.symm ti])).trans a1
          by_cases hlt : j < xs.length
          · have hjo : j < os.length := by omega
            have hdrop : os.drop j = os[j] :: os.drop (j + 1) := List.drop_eq_getElem_cons hjo
            rw [hdrop] at runj ros
            generalize os[j] = o at runj ros hdrop
            have hidx : (dn ++ o :: os.drop (j + 1))[j]? = some o := by
              rw [List.getElem?_append_right (by omega)]
              simp [hdn]
            obtain ⟨w', T', q1, q2, q3, q4⟩ := ros.hole hidx
            refine .inr ⟨⟨xs, w', hq, q1⟩, fun σ' H' => ∃ (dn : List O) (ej : Env) (Zj : Hp) (Sj Tj : AS), dn.length = j + 1 ∧ foORun t i (fun e => exs F n s e) dn (os.drop (j + 1)) ej = r ∧ H' ad = some (.lst xs) ∧ ROs X.K Zj H' xs (dn ++ os.drop (j + 1)) Tj ∧ ¬ Tj ad ∧
                Wd (Sor Sj (fun x => x = ad ∨ Tj x)) Zj H' ∧ Gr S Z H (Sor Sj (fun x => x = ad ∨ Tj x)) Zj H' ∧ RE X.K Zj H' σ' ej Sj ∧ (∀ x, (x = ad ∨ Tj x) → ¬ Sj x) ∧ Ag (asS (.forO t i s)) σ σ',
              fun σ' H' q => ⟨xs.length - (j + 1), by omega, rfl, hlt, q⟩, fun y H2 ⟨eH, yl⟩ => ?_⟩
            subst eH
            have ey := yl xs hq
            rw [q1] at ey
            cases ey
            have reb : RE X.K Zj H2 (σj.set t (some w')) (ej.set t (some o)) (Sor T' Sj) := rej.set q2 (fun x z => dj x (.inr (q3 x z))) t
            have sb : ∀ x, Sor T' Sj x → Sor Sj (fun x => x = ad ∨ Tj x) x := fun x z => z.elim (fun y => .inr (.inr (q3 x y))) .inl
            have wdb := wdj.sub sb
            have ag1 : Ag (asS (.forO t i s)) σ (σj.set t (some w')) := ag.trans (Ag.set (by simp [asS]))
            unfold foORun at runj
            refine hs X W c k body ok k4 (σj.set t (some w')) (Sor T' Sj) Zj H2 (ej.set t (some o)) _ wdb reb ?_
            revert runj
            cases exs F n s (ej.set t (some o)) with
            | no => exact fun runj => by rw [← runj] at h; exact h.elim
            | ex c' e2 =>
              intro runj
              rw [← runj] at h
              exact fun σ' Z' H' S' ag' p => h σ' Z' H' S' (ag1.trans (ag'.sub fun i z => by simp [asS, z])) ⟨p.wd, grj.trans wdj (p.gr.upL sb), p.re⟩
            | ok f e2 =>
              intro runj σ' v Z' H' S' Sv ag' p
              have key : ∀ o', e2[t]? = some (some o') → foORun t i (fun e => exs F n s e) (dn ++ [o']) (os.drop (j + 1)) (e2.set t none) = r → ∃ (dn : List O) (ej : Env) (Zj : Hp) (Sj Tj : AS), dn.length = j + 1 ∧ foORun t i (fun e => exs F n s e) dn (os.drop (j + 1)) ej = r ∧ H' ad = some (.lst xs) ∧ ROs X.K Zj H' xs (dn ++ os.drop (j + 1)) Tj ∧ ¬ Tj ad ∧
                Wd (Sor Sj (fun x => x = ad ∨ Tj x)) Zj H' ∧ Gr S Z H (Sor Sj (fun x => x = ad ∨ Tj x)) Zj H' ∧ RE X.K Zj H' σ' ej Sj ∧ (∀ x, (x = ad ∨ Tj x) → ¬ Sj x) ∧ Ag (asS (.forO t i s)) σ σ' := by
                intro o' he2 run2
                obtain ⟨vt, A1, A2, b1, b2, b3, b4, b5, b6⟩ := p.re.at he2
                have ev : vt = w' := by
                  have hl : t < σj.length := by
                    rcases Nat.lt_or_ge t σj.length with z | z
                    · exact z
                    · rw [List.getElem?_eq_none (by rw [ag'.1]; simpa using z)] at b1
                      cases b1
                  rw [ag'.2 t nt, List.getElem?_set_self hl] at b1
                  cases b1
                  rfl
                subst ev
                have kU : ∀ x, (x = ad ∨ Tj x) → ¬ T' x → ¬ (Sor T' Sj x ∨ H2 x = none ∨ Zj x ≠ none) := fun x hx nx z => by
                  rcases z with (z | z) | z | z
                  · exact nx z
                  · exact dj x hx z
                  · exact not_own_none wdj (.inr hx) z
                  · exact z (wdj.own x (.inr hx)).1
                have nTa : ¬ T' ad := fun z => nT (q3 ad z)
                have hA1 : ∀ x, A1 x → T' x ∨ ¬ Tj x := fun x z => by
                  by_cases hT : Tj x
                  · by_cases hT' : T' x
                    · exact .inl hT'
                    · exact absurd (p.gr.new x (.inl (b3 x z))) (kU x (.inr hT) hT')
                  · exact .inr hT
                have ros2 := q4 Z' H' o' A1 p.gr.z (p.gr.tx wdb) (fun a u sa na q => p.gr.keep a u q fun z => z.elim na fun z => dj a (.inr sa) z) b2 hA1
                have eset : (dn ++ o :: os.drop (j + 1)).set j o' = (dn ++ [o']) ++ os.drop (j + 1) := by
                  rw [List.set_append_right _ _ (by omega), hdn, Nat.sub_self, List.append_assoc]
                  rfl
                rw [eset] at ros2
                have kp : ∀ x u, (x = ad ∨ Tj x) → ¬ T' x → H2 x = some u → H' x = some u := fun x u hx nx q => p.gr.keep x u q fun z => kU x hx nx (.inl z)
                have own' : ∀ x, (x = ad ∨ Tj x) → ¬ T' x → Z' x = none ∧ Mut (H' x) := fun x hx nx => by
                  refine ⟨?_, ?_⟩
                  · cases r : Z' x with
                    | none => rfl
                    | some u => exact absurd (p.gr.new x (.inr (by rw [r]; simp))) (kU x hx nx)
                  · have m := (wdj.own x (.inr hx)).2
                    cases r : H2 x with
                    | none => rw [r] at m; exact m.elim
                    | some u => rw [kp x u hx nx r]; rw [r] at m; exact m
                refine ⟨dn ++ [o'], e2.set t none, Z', A2, fun x => (Tj x ∧ ¬ T' x) ∨ A1 x, by simp [hdn], run2, kp ad _ (.inl rfl) nTa hH, ros2, fun z => ?_, ⟨p.wd.zh, fun x z => ?_⟩, grj.trans wdj ⟨p.gr.z, fun a u q nn => p.gr.keep a u q fun z => nn (sb a z), fun a z => ?_⟩, b6, fun x z y => ?_, ag1.trans (ag'.sub fun i z => by simp [asS, z])⟩
                · rcases z with z | z
                  · exact nT z.1
                  · exact kU ad (.inl rfl) nTa (p.gr.new ad (.inl (b3 ad z)))
                · rcases z with z | z | z | z
                  · exact p.wd.own x (b4 x z)
                  · exact own' x (.inl z) (by rw [z]; exact nTa)
                  · exact own' x (.inr z.1) z.2
                  · exact p.wd.own x (b3 x z)
                · have up : (Sor T' Sj a ∨ H2 a = none ∨ Zj a ≠ none) → Sor Sj (fun x => x = ad ∨ Tj x) a ∨ H2 a = none ∨ Zj a ≠ none := fun q => q.imp (sb a) id
                  rcases z with (z | z | z | z) | z
                  · exact up (p.gr.new a (.inl (b4 a z)))
                  · exact .inl (.inr (.inl z))
                  · exact .inl (.inr (.inr z.1))
                  · exact up (p.gr.new a (.inl (b3 a z)))
                  · exact up (p.gr.new a (.inr z))
                · rcases z with z | z | z
                  · exact kU x (.inl z) (by rw [z]; exact nTa) (p.gr.new x (.inl (b4 x y)))
                  · exact kU x (.inr z.1) z.2 (p.gr.new x (.inl (b4 x y)))
                  · exact b5 x z y
              cases f with
              | bk => exact absurd h (by rw [← runj]; exact fun z => z)
              | rt ov => exact absurd h (by rw [← runj]; exact fun z => z)
              | nx =>
                cases he2 : e2[t]? with
                | none => exact absurd h (by rw [← runj]; simp only [Rs.bind, he2]; exact fun z => z)
                | some oo =>
                  cases oo with
                  | none => exact absurd h (by rw [← runj]; simp only [Rs.bind, he2]; exact fun z => z)
                  | some o' => exact key o' he2 (by rw [← runj]; simp only [Rs.bind, he2])
              | ct =>
                cases he2 : e2[t]? with
                | none => exact absurd h (by rw [← runj]; simp only [Rs.bind, he2]; exact fun z => z)
                | some oo =>
                  cases oo with
                  | none => exact absurd h (by rw [← runj]; simp only [Rs.bind, he2]; exact fun z => z)
                  | some o' => exact key o' he2 (by rw [← runj]; simp only [Rs.bind, he2])
          · have ej' : j = os.length := by omega
            subst ej'
            rw [List.drop_length] at runj ros
            rw [List.append_nil] at ros
            unfold foORun at runj
            rw [← runj] at h
            have ro : RO X.K Zj Hj (.ref ad) (.lst dn) (fun x => x = ad ∨ Tj x) := .lst hH (.inl rfl) ros (fun _ => .inr) nT
            have sw : ∀ x, Sor (fun x => x = ad ∨ Tj x) Sj x → Sor Sj (fun x => x = ad ∨ Tj x) x := fun x z => z.elim .inr .inl
            exact .inl ⟨⟨xs, hq, by omega⟩, h σj .non Zj Hj _ _ ag (.st (wdj.sub sw) (grj.subR sw) ((rej.put sit ro dj).drop t) True.intro)⟩
    · exact h.elim
  · cases hc
theorem good_sret {a : E} : GoodS F cl n (.ret a) := by
  intro X W c k st ok hc σ S Z H e D wd re h
  unfold chkS at hc
  split at hc
  · unfold ex at h
    refine wS_of (ps_ret pe_wE) ((good a).1 false X W c k _ ok.toXOk hc σ S Z H e wd re _ (SSpec.bindE (fun o e1 _ v Z1 H1 S1 Sv p h1 => ?_) h))
    have p' : PR X.K (qt a) true σ S Z H e1 (repO X.K v o) Z1 H1 S1 Sv := p
    exact h1 σ v Z1 H1 S1 Sv .refl ⟨p'.wd, p'.gr, p'.re, p'.ro, p'.apart, p'.sub, fun z => nomatch z⟩
  · cases hc
theorem good_sown {i : Nat} {r : Ss} {s : Rim.S} (hs : s = .drop i ∨ s = .frz i) (hr : GoodSs F cl n r) : GoodSs F cl n (.cons s r) := by
  intro X W c k st ok hc σ S Z H e D wd re h
  have hc' : chkSs c r st = true := by
    rcases hs with e | e <;> (subst e; unfold chkSs at hc; exact hc)
  unfold exs at h
  have h' : SSpec X W cl (asSs r) σ S Z H ((ex F n s e).bind fun f e1 => (match f with
    | .nx => exs F n r e1
    | f => .ok f e1)) D := h.less fun i z => by simp [asSs, z]
  rcases hs with e1 | e1
  · subst e1
    exact hr X W c k st ok hc' σ S Z H (e.set i none) D wd (re.drop i) h'
  · subst e1
    unfold ex at h'
    split at h'
    · rename_i o he
      obtain ⟨v, S1, S2, g1, g2, g3, g4, g5, g6⟩ := re.at he
      have p1 : PR X.K false true σ S Z H (e.set i none) (repO X.K v o) Z H S2 S1 := ⟨wd.sub g4, Gr.refl.subR g4, g6, g2, fun _ => ⟨fun a z y => g5 a y z, wd.sub g3, Gr.refl.subR fun a z => z.elim (g4 a) (g3 a)⟩, (fun z => nomatch z), fun z => nomatch z⟩
      obtain ⟨Z', p2, _⟩ := PR.frozen p1
      have r3 := (p2.re.put (S1 := fun _ => False) g1 p2.ro fun _ z => z.elim).up fun x z => z.elim (fun y => y.elim) fun y => y
      have e3 : (e.set i none).set i (some (.fz (er o))) = e.set i (some (.fz (er o))) := List.set_set ..
      rw [e3] at r3
      have h2 : SSpec X W cl (asSs r) σ S Z H (exs F n r (e.set i (some (.fz (er o))))) D := h'
      exact hr X W c k st ok hc' σ S2 Z' H _ D p2.wd r3 (h2.shift .refl p2.wd p2.gr)
    · exact h'.elim
theorem good_snil : GoodSs F cl n .nil := by
  intro X W c k st ok hc σ S Z H e D wd re h
  unfold chkSs at hc
  split at hc
  · unfold exs at h
    exact wSs_of pss_nil (h σ .non Z H S _ .refl (.st wd .refl re True.intro))
  · cases hc
def ownS : Rim.S → Bool
  | .drop _ => true
  | .frz _ => true
  | _ => false
theorem good_scons {s : Rim.S} {r : Ss} (ho : ownS s = false) (hs : GoodS F cl n s) (hr : GoodSs F cl n r) : GoodSs F cl n (.cons s r) := by
  intro X W c k st ok hc σ S Z H e D wd re h
  have hc' : ∃ x xs, st = x :: xs ∧ chkS c s x = true ∧ chkSs c r xs = true := by
    cases st with
    | nil => cases s <;> first | (simp [chkSs] at hc; done) | (simp [ownS] at ho)
    | cons x xs =>
      refine ⟨x, xs, rfl, ?_⟩
      cases s <;> first | (simp [ownS] at ho; done) | simpa [chkSs] using hc
  obtain ⟨x, xs, rfl, h1, h2⟩ := hc'
  unfold exs at h
  refine wSs_of (pss_cons ps_wS pss_wSs) (hs X W c k x ok h1 σ S Z H e _ wd re ?_)
  have hl := h.less (bs := asS s) fun i z => by simp [asSs, z]
  revert h hl
  cases ex F n s e with
  | no => exact fun h _ => h
  | ex c' e' => exact fun _ h => h
  | ok f e1 =>
    cases f with
    | nx =>
      intro h _ σ' v Z' H' S' Sv ag p
      exact hr X W c k xs ok h2 σ' S' Z' H' e1 D p.wd p.re ((h.shift (ag.sub fun i z => by simp [asSs, z]) p.wd p.gr).less fun i z => by simp [asSs, z])
    | bk => exact fun _ h => h
    | ct => exact fun _ h => h
    | rt o => exact fun _ h => h
theorem good_ssimple {s : Rim.S} (hs : s = .retN ∨ s = .brk ∨ s = .cnt ∨ s = .pass ∨ s = .never) : GoodS F cl n s := by
  intro X W c k st ok hc σ S Z H e D wd re h
  rcases hs with e1 | e1 | e1 | e1 | e1
  all_goals subst e1
  · unfold chkS at hc
    split at hc
    · exact wS_of ps_retN (h σ .non Z H S _ .refl (.st wd .refl re (.fz .non)))
    · cases hc
  · unfold chkS at hc
    split at hc
    · exact wS_of ps_break (h σ .non Z H S _ .refl (.st wd .refl re True.intro))
    · cases hc
  · unfold chkS at hc
    split at hc
    · exact wS_of ps_continue (h σ .non Z H S _ .refl (.st wd .refl re True.intro))
    · cases hc
  · unfold chkS at hc
    split at hc
    · exact wS_of ps_pass (h σ .non Z H S _ .refl (.st wd .refl re True.intro))
    · cases hc
  · exact h.elim
mutual
theorem goodS : ∀ s : Rim.S, ownS s = false → GoodS F cl n s
  | .set _ _, _ => good_sset
  | .asg _ _, _ => good_sasg
  | .par _ _ _ _, _ => good_spar
  | .par3 _ _ _ _ _ _, _ => good_spar3
  | .aug _ _ _, _ => good_saug
  | .put _ _ _, _ => good_sput
  | .putA _ _ _, _ => good_sputA
  | .puts2 _ _ _ _, _ => good_sputs2
  | .expr _, _ => good_sexpr
  | .ite _ s t, _ => good_site (goodSs s) (goodSs t)
  | .forr _ _ b, _ => good_sfor (goodSs b)
  | .whl _ b, _ => good_swhl (goodSs b)
  | .ret _, _ => good_sret
  | .retN, _ => good_ssimple (.inl rfl)
  | .brk, _ => good_ssimple (.inr (.inl rfl))
  | .cnt, _ => good_ssimple (.inr (.inr (.inl rfl)))
  | .pass, _ => good_ssimple (.inr (.inr (.inr (.inl rfl))))
  | .never, _ => good_ssimple (.inr (.inr (.inr (.inr rfl))))
  | .forO _ _ b, _ => good_sforO (goodSs b)
  | .raise _ _, _ => good_sraise
  | .trys b _ _ _ s, _ => good_strys (goodSs b) (goodSs s)
theorem goodSs : ∀ s : Ss, GoodSs F cl n s
  | .nil => good_snil
  | .cons (.drop i) r => good_sown (.inl rfl) (goodSs r)
  | .cons (.frz i) r => good_sown (.inr rfl) (goodSs r)
  | .cons (.set i a) r => good_scons rfl (goodS (.set i a) rfl) (goodSs r)
  | .cons (.asg i a) r => good_scons rfl (goodS (.asg i a) rfl) (goodSs r)
  | .cons (.par i j a b) r => good_scons rfl (goodS (.par i j a b) rfl) (goodSs r)
  | .cons (.par3 i j l a b d) r => good_scons rfl (goodS (.par3 i j l a b d) rfl) (goodSs r)
  | .cons (.aug i o a) r => good_scons rfl (goodS (.aug i o a) rfl) (goodSs r)
  | .cons (.put p kk a) r => good_scons rfl (goodS (.put p kk a) rfl) (goodSs r)
  | .cons (.putA i kk a) r => good_scons rfl (goodS (.putA i kk a) rfl) (goodSs r)
  | .cons (.puts2 i kk a b) r => good_scons rfl (goodS (.puts2 i kk a b) rfl) (goodSs r)
  | .cons (.expr a) r => good_scons rfl (goodS (.expr a) rfl) (goodSs r)
  | .cons (.ite a s t) r => good_scons rfl (good_site (goodSs s) (goodSs t)) (goodSs r)
  | .cons (.forr t it b) r => good_scons rfl (good_sfor (goodSs b)) (goodSs r)
  | .cons (.whl a b) r => good_scons rfl (good_swhl (goodSs b)) (goodSs r)
  | .cons (.ret a) r => good_scons rfl (goodS (.ret a) rfl) (goodSs r)
  | .cons .retN r => good_scons rfl (goodS .retN rfl) (goodSs r)
  | .cons (.forO t i b) r => good_scons rfl (good_sforO (goodSs b)) (goodSs r)
  | .cons .brk r => good_scons rfl (goodS .brk rfl) (goodSs r)
  | .cons .cnt r => good_scons rfl (goodS .cnt rfl) (goodSs r)
  | .cons .pass r => good_scons rfl (goodS .pass rfl) (goodSs r)
  | .cons (.raise q m) r => good_scons rfl good_sraise (goodSs r)
  | .cons (.trys b q i l s) r => good_scons rfl (good_strys (goodSs b) (goodSs s)) (goodSs r)
  | .cons .never r => good_scons rfl (goodS .never rfl) (goodSs r)
end
end
end Rim
namespace Rim
open PySem PySem.Spec PyProof.Rows L2

/-! ### defs -/
structure Df where
  name : Str
  ps : List Str
  N : List Str
  body : Ss
  ast : Stmt
def fsOf (T : List Df) : List (Str × Nat) := T.map fun d => (d.name, d.ps.length)
def ctOf (B Ex Hx : List Str) (Th T : List Df) (d : Df) : CT := { N := d.N, sc := defScope d.ast, fnb := fun _ => true, bl := B, fs := fsOf T, ex := Ex, hx := Hx, hot := fsOf Th, calm := true }
/-- .. of a def that may be called while an exception is handled -/
def ctHot (B Ex Hx : List Str) (Th : List Df) (d : Df) : CT := { ctOf B Ex Hx Th Th d with calm := false }
def scopeB (d : Df) : Bool := (match (defScope d.ast).kind with | .function => true | _ => false) && !(defScope d.ast).isCoroutine && !(defScope d.ast).isGenerator && decide (d.N.Nodup) && decide (d.N.take d.ps.length = d.ps) &&
  (d.ps.all fun x => decide ((defScope d.ast).names.lookup x = some .local) || decide ((defScope d.ast).names.lookup x = some .cell)) && (defScope d.ast).names.all fun y => (match y.2 with | .free => false | _ => true)
def chkX (B Ex Hx : List Str) (Th T : List Df) (d : Df) : Bool := chkSs (ctOf B Ex Hx Th T d) d.body (defBody d.ast) && scopeB d
def chkHot (B Ex Hx : List Str) (Th : List Df) (d : Df) : Bool := chkSs (ctHot B Ex Hx Th d) d.body (defBody d.ast) && scopeB d
abbrev chkD (B : List Str) (T : List Df) (d : Df) : Bool := chkX B [] [] [] T d
theorem scope_ok {d : Df} (h : scopeB d = true) : FnScope d.N d.ps (defScope d.ast) := by
  unfold scopeB at h
  simp only [Bool.and_eq_true, Bool.not_eq_true', decide_eq_true_eq] at h
  obtain ⟨⟨⟨⟨⟨⟨h1, h2⟩, h3⟩, h4⟩, h5⟩, h6⟩, h7⟩ := h
  refine ⟨?_, h2, h3, h4, h5, fun x hx => ?_, fun y hy e => ?_⟩
  · split at h1
    · assumption
    · cases h1
  · have q := List.all_eq_true.mp h6 x hx
    simpa using q
  · have q := List.all_eq_true.mp h7 y hy
    rw [e] at q
    cases q
/-- behind a def's run: the parameters that were never stored -/
def keepP (d : Df) (e : Env) : Env := (wipeE e (asSs d.body)).take d.ps.length
def finF (d : Df) (r : Rs Fl) : FR := match r with
  | .ok (.rt o) e => .ok o (keepP d e)
  | .ok .nx e => .ok (.fz .none) (keepP d e)
  | .ex c e => .ex c (keepP d e)
  | _ => .no
def startE (d : Df) (os : List O) : Env := os.map some ++ List.replicate (d.N.length - os.length) none
def findD : List Df → Str → Option Df
  | [], _ => none
  | d :: r, f => if d.name = f then some d else findD r f
/-- n: turns of a while; k: depth of calls -/
def run (T : List Df) (n : Nat) : Nat → Fns
  | 0 => fun _ _ => .no
  | k + 1 => fun f os => match findD T f with
    | none => .no
    | some d => if os.length = d.ps.length then finF d (exs (run T n k) n d.body (startE d os)) else .no
theorem lt65 {a k c : Nat} (h : a + 16 * k + 200 < c) : a + 65 < c := by omega
theorem findD_mem : ∀ {T : List Df} {d : Df}, (T.map (·.name)).Nodup → d ∈ T → findD T d.name = some d
  | [], d, _, h => by cases h
  | d0 :: T, d, nd, h => by
    unfold findD
    have nd' := List.nodup_cons.mp nd
    rcases List.mem_cons.mp h with e | h
    · subst e
      rw [if_pos rfl]
    · rw [if_neg (fun e => nd'.1 (by show d0.name ∈ _; rw [e]; exact List.mem_map_of_mem (f := fun d : Df => d.name) h)), findD_mem nd'.2 h]
section
variable {K : PySem.W.Frag} {Z H : Hp} {S : AS}
theorem RE.nones {σ : L2.St} : ∀ {e : Env}, σ.length = e.length → (∀ x ∈ e, x = none) → RE K Z H σ e S := by
  induction σ with
  | nil =>
    intro e l _
    cases e with
    | nil => exact .nil
    | cons x r => cases l
  | cons x σ ih =>
    intro e l h
    cases e with
    | nil => cases l
    | cons y r =>
      cases h y (List.mem_cons_self)
      exact .non (ih (by simpa using l) fun z q => h z (List.mem_cons_of_mem _ q))
theorem RE.start {m : Nat} : ∀ {vs : List V} {os : List O} {S : AS}, ROs K Z H vs os S → RE K Z H (vs.map some ++ List.replicate m none) (os.map some ++ List.replicate m none) S
  | _, _, _, .nil => .nones (by simp) fun x h => by simpa using (List.mem_replicate.mp h).2
  | _, _, _, .cons h r b c d => .som h (RE.start r) b c d
theorem RE.take {σ : L2.St} {e : Env} (h : RE K Z H σ e S) : ∀ n : Nat, RE K Z H (σ.take n) (e.take n) S := by
  induction h with
  | nil => intro n; simp; exact .nil
  | non r ih =>
    intro n
    cases n with
    | zero => exact .nil
    | succ n => exact .non (ih n)
  | som ho r b c d ih =>
    intro n
    cases n with
    | zero => exact .nil
    | succ n => exact .som ho (ih n) b c d
/-- the parameters come back -/
theorem keep_re {d : Df} {vs : List V} {σ' : L2.St} {e : Env} (hN : d.N.take d.ps.length = d.ps) (hl : vs.length = d.ps.length) (ag : Ag (asSs d.body) (L2.start d.N vs) σ') (h : RE K Z H σ' e S) : RE K Z H (vs.map some) (keepP d e) S := by
  have lN : d.ps.length ≤ d.N.length := by
    have := congrArg List.length hN
    rw [List.length_take] at this
    omega
  have ls : (L2.start d.N vs).length = d.N.length := by unfold L2.start; simp; omega
  refine (RE.take (RE.wipe h (asSs d.body)) d.ps.length).more (fun i v q => ?_) ?_
  · have hi : i < d.ps.length := by
      rcases Nat.lt_or_ge i d.ps.length with z | z
      · exact z
      · rw [List.getElem?_eq_none (by rw [List.length_take, wipe_length]; omega)] at q
        cases q
    rw [List.getElem?_take_of_lt hi] at q
    obtain ⟨q1, q2⟩ := wipe_some q
    have q3 : i ∉ asSs d.body := by
      intro z
      have := wipe_in (σ := σ') (by rw [ag.1, ls]; omega) z
      rw [this] at q
      cases q
    rw [ag.2 i q3] at q1
    unfold L2.start at q1
    rw [List.getElem?_append_left (by simp; omega)] at q1
    exact q1
  · rw [List.length_take, wipe_length, ag.1, ls, List.length_map]
    omega
end
section
variable {P : Program} {w : World} {K : PySem.W.Frag} {mg : Str → Option Value} {base : Heap} {T Th : List Df} {B Ex Hx : List Str} {n : Nat}
/-- a def's object -/
def Obj1 (K : PySem.W.Frag) (mg : Str → Option Value) (d : Df) : Prop := ∃ f fd, Fun K d.name d.name d.ast f fd ∧ Binds K fd d.ps [] ∧ mg d.name = some (.ref f)
theorem run_hot (cl : Str → Value) (nd : (T.map (·.name)).Nodup) (hT : ∀ d ∈ T, Obj1 K mg d) (hB : ∀ x ∈ B, mg x = none) (hE : ∀ q ∈ Ex, ExK K mg cl Hx q) (hH : ∀ q ∈ Hx, HxK mg cl q) (sb : ∀ d ∈ Th, d ∈ T) (hh : ∀ d ∈ Th, chkHot B Ex Hx Th d = true) : ∀ k, ∀ d ∈ Th, ∀ f fd, Fun K d.name d.name d.ast f fd → FnT P w K mg base (L2.CX P w) k f fd d.ps (spF K cl (run T n k) d.name d.ps.length)
  | 0, d, _, f, fd, _ => fun A _ => ⟨fun vs H Q E h => h.1, fun outer s H args us vs Q E _ _ _ hs => by
    obtain ⟨_, S, Z, os, _, _, h⟩ := hs
    exact False.elim h⟩
  | k + 1, d, hd, f, fd, F => by
    have hcd := hh d hd
    unfold chkHot at hcd
    rw [Bool.and_eq_true] at hcd
    have sco := scope_ok hcd.2
    refine fn_any F sco (fun vs H Q E h => h.1) fun cdv A outer s H vs Q E hr hsp => ⟨_, pss_wSs, ?_⟩
    obtain ⟨hl, S, Z, os, wd, ros, post⟩ := hsp
    have lo : os.length = d.ps.length := by rw [← ROs.length ros]; exact hl
    have sok : SOk (ctHot B Ex Hx Th d) (run T n k) cl k (fun cls d _ H => E cls d H) (cxT (L2.CX P w) P w K mg base d.N d.name (defScope d.ast) f cdv A outer s H E) :=
      { N := rfl, nd := sco.nd, sc := rfl, fnb := fun _ _ => rfl, calm := fun z => Bool.noConfusion z, bl := fun x hx => hB x hx, hu := lt65 (k := k) hr.un, tk := takes_of rfl rfl rfl rfl, rm := hr,
        fs := fun f' n' hm => by
          obtain ⟨d', hd', e⟩ := List.mem_map.mp hm
          cases e
          obtain ⟨fa, fd', F', b', m'⟩ := hT d' (sb d' hd')
          exact ⟨fa, fd', d'.ps, m', F'.kp, b', rfl, run_hot cl nd hT hB hE hH sb hh k d' hd' fa fd' F' _ hr⟩,
        hots := fun f' n' hm => by
          obtain ⟨d', hd', e⟩ := List.mem_map.mp hm
          cases e
          obtain ⟨fa, fd', F', b', m'⟩ := hT d' (sb d' hd')
          exact ⟨fa, fd', d'.ps, m', F'.kp, b', rfl, run_hot cl nd hT hB hE hH sb hh k d' hd' fa fd' F'⟩,
        exk := hE, hxk := hH, stk := rfl, frm := rfl, noex := rfl,
        pass := passes_of rfl, kind := sco.kind }
    have hrun : run T n (k + 1) d.name os = finF d (exs (run T n k) n d.body (startE d os)) := by
      show (match findD T d.name with | none => _ | some d => _) = _
      rw [findD_mem nd (sb d hd)]
      exact if_pos lo
    rw [hrun] at post
    have re : RE K Z H (L2.start d.N vs) (startE d os) S := by
      unfold L2.start startE
      rw [hl, lo]
      exact .start ros
    refine (goodSs (F := run T n k) (cl := cl) (n := n) d.body) _ _ (ctHot B Ex Hx Th d) k (defBody d.ast) sok hcd.1 (L2.start d.N vs) S Z H (startE d os) _ wd re ?_
    revert post
    cases exs (run T n k) n d.body (startE d os) with
    | no => exact fun h => h
    | ex c e => exact fun h σ' Z' H' S' ag p => h Z' H' S' ⟨p.wd, p.gr, keep_re sco.pre hl ag p.re⟩
    | ok fl e =>
      cases fl with
      | bk => exact fun h => False.elim h
      | ct => exact fun h => False.elim h
      | nx =>
        intro h σ' v Z' H' S' Sv ag p
        exact h .non Z' H' S' _ (.st p.wd p.gr (keep_re sco.pre hl ag p.re) (.fz .non))
      | rt o =>
        intro h σ' v Z' H' S' Sv ag p
        have p' : PR K false true σ' S Z H e (repO K v o) Z' H' S' Sv := p
        exact h v Z' H' S' Sv ⟨p'.wd, p'.gr, keep_re sco.pre hl ag p'.re, p'.ro, p'.apart, p'.sub, fun z => nomatch z⟩
theorem run_okX (cl : Str → Value) (nd : (T.map (·.name)).Nodup) (hT : ∀ d ∈ T, Obj1 K mg d) (hB : ∀ x ∈ B, mg x = none) (hE : ∀ q ∈ Ex, ExK K mg cl Hx q) (hH : ∀ q ∈ Hx, HxK mg cl q) (sb : ∀ d ∈ Th, d ∈ T) (hh : ∀ d ∈ Th, chkHot B Ex Hx Th d = true) (hc : ∀ d ∈ T, chkX B Ex Hx Th T d = true) : ∀ k, ∀ d ∈ T, ∀ f fd, Fun K d.name d.name d.ast f fd → FnOk P w K mg base (L2.CX P w) k f fd d.ps (spF K cl (run T n k) d.name d.ps.length)
  | 0, d, _, f, fd, _ => ⟨fun vs H Q E h => h.1, fun A outer s H args us vs Q E _ _ _ _ hs => by
    obtain ⟨_, S, Z, os, _, _, h⟩ := hs
    exact False.elim h⟩
  | k + 1, d, hd, f, fd, F => by
    have hcd := hc d hd
    unfold chkX at hcd
    rw [Bool.and_eq_true] at hcd
    have sco := scope_ok hcd.2
    refine L2.Fun.okX F sco (fun vs H Q E h => h.1) fun cdv A outer s H vs Q E hr hsp => ⟨_, pss_wSs, ?_⟩
    obtain ⟨hl, S, Z, os, wd, ros, post⟩ := hsp
    have lo : os.length = d.ps.length := by rw [← ROs.length ros]; exact hl
    have sok : SOk (ctOf B Ex Hx Th T d) (run T n k) cl k (fun cls d _ H => E cls d H) (cxOf (L2.CX P w) P w K mg base d.N d.name (defScope d.ast) f cdv A outer s H E) :=
      { N := rfl, nd := sco.nd, sc := rfl, fnb := fun _ _ => rfl, calm := fun _ => rfl, bl := fun x hx => hB x hx, hu := lt65 hr.un, tk := takes_of rfl rfl rfl rfl, rm := rm_of hr,
        fs := fun f' n' hm => by
          obtain ⟨d', hd', e⟩ := List.mem_map.mp hm
          cases e
          obtain ⟨fa, fd', F', b', m'⟩ := hT d' hd'
          exact ⟨fa, fd', d'.ps, m', F'.kp, b', rfl, fn_at (run_okX cl nd hT hB hE hH sb hh hc k d' hd' fa fd' F') hr⟩,
        hots := fun f' n' hm => by
          obtain ⟨d', hd', e⟩ := List.mem_map.mp hm
          cases e
          obtain ⟨fa, fd', F', b', m'⟩ := hT d' (sb d' hd')
          exact ⟨fa, fd', d'.ps, m', F'.kp, b', rfl, run_hot cl nd hT hB hE hH sb hh k d' hd' fa fd' F'⟩,
        exk := hE, hxk := hH, stk := rfl, frm := rfl, noex := rfl,
        pass := passes_of rfl, kind := sco.kind }
    have hrun : run T n (k + 1) d.name os = finF d (exs (run T n k) n d.body (startE d os)) := by
      show (match findD T d.name with | none => _ | some d => _) = _
      rw [findD_mem nd hd]
      exact if_pos lo
    rw [hrun] at post
    have re : RE K Z H (L2.start d.N vs) (startE d os) S := by
      unfold L2.start startE
      rw [hl, lo]
      exact .start ros
    refine (goodSs (F := run T n k) (cl := cl) (n := n) d.body) _ _ (ctOf B Ex Hx Th T d) k (defBody d.ast) sok hcd.1 (L2.start d.N vs) S Z H (startE d os) _ wd re ?_
    revert post
    cases exs (run T n k) n d.body (startE d os) with
    | no => exact fun h => h
    | ex c e => exact fun h σ' Z' H' S' ag p => h Z' H' S' ⟨p.wd, p.gr, keep_re sco.pre hl ag p.re⟩
    | ok fl e =>
      cases fl with
      | bk => exact fun h => False.elim h
      | ct => exact fun h => False.elim h
      | nx =>
        intro h σ' v Z' H' S' Sv ag p
        exact h .non Z' H' S' _ (.st p.wd p.gr (keep_re sco.pre hl ag p.re) (.fz .non))
      | rt o =>
        intro h σ' v Z' H' S' Sv ag p
        have p' : PR K false true σ' S Z H e (repO K v o) Z' H' S' Sv := p
        exact h v Z' H' S' Sv ⟨p'.wd, p'.gr, keep_re sco.pre hl ag p'.re, p'.ro, p'.apart, p'.sub, fun z => nomatch z⟩
/-- classes by their names -/
def clF (K : PySem.W.Frag) (q : Str) : Value := match PySem.W.nsIn K mainGlobals q with
  | some (some v) => v
  | some none => (bootBuiltins q).getD .none
  | none => .none
theorem clF_own {D : Addr} {q : Str} (h : PySem.W.nsIn K mainGlobals q = some (some (.ref D))) : clF K q = .ref D := by unfold clF; rw [h]
theorem clF_blt {v : Value} {q : Str} (h : PySem.W.nsIn K mainGlobals q = some none) (b : bootBuiltins q = some v) : clF K q = v := by unfold clF; rw [h, b]; rfl
/-- the law's def, with as many turns as the script wants -/
def spL (K : PySem.W.Frag) (cl : Str → Value) (T : List Df) (k : Nat) (f : Str) (m : Nat) : Sp := fun vs H Q E => ∃ n, spF K cl (run T n k) f m vs H Q E
theorem law_okX (cl : Str → Value) {k : Nat} (nd : (T.map (·.name)).Nodup) (hT : ∀ d ∈ T, Obj1 K mg d) (hB : ∀ x ∈ B, mg x = none) (hE : ∀ q ∈ Ex, ExK K mg cl Hx q) (hH : ∀ q ∈ Hx, HxK mg cl q) (sb : ∀ d ∈ Th, d ∈ T) (hh : ∀ d ∈ Th, chkHot B Ex Hx Th d = true) (hc : ∀ d ∈ T, chkX B Ex Hx Th T d = true) {d : Df} (hd : d ∈ T) {f : Addr} {fd : FuncData} (F : Fun K d.name d.name d.ast f fd) :
    FnOk P w K mg base (L2.CX P w) k f fd d.ps (spL K cl T k d.name d.ps.length) :=
  ⟨fun vs H Q E ⟨n, h⟩ => h.1, fun A outer s H args us vs Q E hr he hb hv ⟨n, hs⟩ => (run_okX (n := n) cl nd hT hB hE hH sb hh hc k d hd f fd F).run A outer s H args us vs Q E hr he hb hv hs⟩
theorem law_ok (cl : Str → Value) {k : Nat} (nd : (T.map (·.name)).Nodup) (hT : ∀ d ∈ T, Obj1 K mg d) (hB : ∀ x ∈ B, mg x = none) (hc : ∀ d ∈ T, chkD B T d = true) {d : Df} (hd : d ∈ T) {f : Addr} {fd : FuncData} (F : Fun K d.name d.name d.ast f fd) :
    FnOk P w K mg base (L2.CX P w) k f fd d.ps (spL K cl T k d.name d.ps.length) := law_okX (Ex := []) (Hx := []) (Th := []) cl nd hT hB (fun q z => by cases z) (fun q z => by cases z) (fun d z => by cases z) (fun d z => by cases z) hc hd F
/-- the script at the law's entry -/
theorem sp_script {cl : Str → Value} {k : Nat} {f : Str} {H : Hp} {a : Addr} {ns : List Int} {E : XK} (hS : SqL K H a (ns.map V.int)) (h : ∃ n ps, run T n k f [.fz (.list (ns.map .int))] = .ok (.fz (.bool true)) ps) : spL K cl T k f 1 [.ref a] H (fun v _ => v = .bl true) E := by
  obtain ⟨n, ps, h⟩ := h
  have hz : ∀ ns : List Int, RDs K H H (ns.map V.int) (ns.map PyData.int) := fun ns => by
    induction ns with
    | nil => exact .nil
    | cons i r ih => exact .cons (.int i) ih
  refine ⟨n, rfl, fun _ => False, H, [.fz (.list (ns.map .int))], ⟨Ex.refl _, fun _ z => z.elim⟩, ROs.solo (.fz (.lst hS (hz ns))), ?_⟩
  rw [h]
  intro v Z' H' S' Sv p
  exact (show RO _ _ _ _ _ _ from p.ro).bl
end
theorem cx_end {P : Program} {w : World} (H : Hp) (s : Shared) (e : Value) (s' : Shared) (h : L2.CX P w [] H s (fun _ _ _ => False) e s') : False := by
  obtain ⟨_, _, _, _, _, _, _, _, _, _, _, _, z⟩ := h
  exact z
end Rim
namespace Rim
open PySem PySem.Spec PyProof.Rows L2

/-! ### evaluation, rule by rule -/
section
variable {F : Fns} {w : Bool} {e : Env} {a b : E} {n : Nat}
@[simp] theorem bind_ok_ {α β : Type} {x : α} {e : Env} {f : α → Env → Rs β} : (Rs.ok x e).bind f = f x e := rfl
@[simp] theorem bind_ex_ {α β : Type} {c : Str} {e : Env} {f : α → Env → Rs β} : (Rs.ex c e : Rs α).bind f = .ex c e := rfl
@[simp] theorem bind_no_ {α β : Type} {f : α → Env → Rs β} : (Rs.no : Rs α).bind f = .no := rfl
@[simp] theorem of_some_ {α : Type} {x : α} : Rs.of e (some x) = .ok x e := rfl
@[simp] theorem of_none_ {α : Type} : Rs.of e (none : Option α) = .no := rfl
@[simp] theorem calm_ok_ {α : Type} {x : α} : (Rs.ok x e).calm = .ok x e := rfl
@[simp] theorem boolOf_ {b : Bool} : boolOf (.fz (.bool b)) e = .ok b e := rfl
@[simp] theorem intOf_ {i : Int} : intOf (.fz (.int i)) e = .ok i e := rfl
@[simp] theorem isFz_fz {d : PyData} : isFz (.fz d) = true := rfl
@[simp] theorem isFz_lst {d : List O} : isFz (.lst d) = false := rfl
@[simp] theorem isFz_tup {d : List O} : isFz (.tup d) = false := rfl
@[simp] theorem er_fz {d : PyData} : er (.fz d) = d := by rw [er]
@[simp] theorem er_lst {d : List O} : er (.lst d) = .list (ers d) := by rw [er]
@[simp] theorem er_tup {d : List O} : er (.tup d) = .tuple (ers d) := by rw [er]
@[simp] theorem ers_nil : ers [] = [] := by rw [ers]
@[simp] theorem ers_cons {o : O} {os : List O} : ers (o :: os) = er o :: ers os := by rw [ers]
@[simp] theorem ers_map {ds : List PyData} : ers (ds.map .fz) = ds := by
  induction ds with
  | nil => rfl
  | cons d ds ih => rw [List.map_cons, ers_cons, ih, er_fz]
@[simp] theorem fzs_nil : fzs [] = some [] := rfl
@[simp] theorem fzs_cons {d : PyData} {os : List O} : fzs (.fz d :: os) = (fzs os).map (d :: ·) := rfl
@[simp] theorem fzs_all {ds : List PyData} : fzs (ds.map .fz) = some ds := by
  induction ds with
  | nil => rfl
  | cons d ds ih => rw [List.map_cons, fzs_cons, ih]; rfl
@[simp] theorem fzs_lst_ {a r : List O} : fzs (.lst a :: r) = none := rfl
@[simp] theorem fzs_tup_ {a r : List O} : fzs (.tup a :: r) = none := rfl
@[simp] theorem mkTup_fzs {ds : List PyData} {os : List O} (h : fzs os = some ds) : mkTup os = .fz (.tuple ds) := by unfold mkTup; rw [h]
@[simp] theorem ev_var {i : Nat} : ev F w (.var i) e = (match e[i]? with | some (some o) => if w || isFz o then .ok o e else .no | _ => .no) := by first | (rw [ev]; done) | (rw [ev]; rfl)
@[simp] theorem ev_mov {i : Nat} : ev F w (.mov i) e = (match e[i]? with | some (some o) => .ok o (e.set i none) | _ => .no) := by first | (rw [ev]; done) | (rw [ev]; rfl)
@[simp] theorem ev_int {i : Int} : ev F w (.int i) e = .ok (.fz (.int i)) e := by first | (rw [ev]; done) | (rw [ev]; rfl)
@[simp] theorem ev_str {i : Str} : ev F w (.str i) e = .ok (.fz (.str i)) e := by first | (rw [ev]; done) | (rw [ev]; rfl)
@[simp] theorem ev_bl {i : Bool} : ev F w (.bl i) e = .ok (.fz (.bool i)) e := by first | (rw [ev]; done) | (rw [ev]; rfl)
@[simp] theorem ev_non : ev F w .non e = .ok (.fz .none) e := by first | (rw [ev]; done) | (rw [ev]; rfl)
@[simp] theorem ev_bin {o : Bop} : ev F w (.bin o a b) e = (ev F true a e).bind fun x e1 => (ev F true b e1).bind fun y e2 => if !pl a || isFz x || qt b then Rs.of e2 (binO o x y) else .no := by first | (rw [ev]; done) | (rw [ev]; rfl)
@[simp] theorem ev_cmp {o : Cop} : ev F w (.cmp o a b) e = (ev F true a e).bind fun x e1 => (ev F true b e1).bind fun y e2 => if !pl a || isFz x || qt b then Rs.of e2 ((cmpO o x y).map fun r => .fz (.bool r)) else .no := by first | (rw [ev]; done) | (rw [ev]; rfl)
@[simp] theorem ev_neg : ev F w (.neg a) e = (ev F false a e).bind fun x e1 => Rs.of e1 (negO x) := by first | (rw [ev]; done) | (rw [ev]; rfl)
@[simp] theorem ev_not : ev F w (.not a) e = (ev F false a e).bind fun x e1 => (boolOf x e1).bind fun r e1 => .ok (.fz (.bool (!r))) e1 := by first | (rw [ev]; done) | (rw [ev]; rfl)
@[simp] theorem ev_band : ev F w (.band a b) e = (ev F false a e).bind fun x e1 => (boolOf x e1).bind fun r e1 => if r then (ev F false b e1).bind fun y e2 => (boolOf y e2).bind fun r e2 => .ok (.fz (.bool r)) e2 else .ok (.fz (.bool false)) e1 := by first | (rw [ev]; done) | (rw [ev]; rfl)
@[simp] theorem ev_bor : ev F w (.bor a b) e = (ev F false a e).bind fun x e1 => (boolOf x e1).bind fun r e1 => if r then .ok (.fz (.bool true)) e1 else (ev F false b e1).bind fun y e2 => (boolOf y e2).bind fun r e2 => .ok (.fz (.bool r)) e2 := by first | (rw [ev]; done) | (rw [ev]; rfl)
@[simp] theorem ev_ix : ev F w (.ix a b) e = (ev F true a e).bind fun x e1 => (ev F false b e1).bind fun y e2 => if !pl a || isFz x || qt b then (match itemO x (er y) with
    | some o => if isFz o || (w && pl a && qt b) then .ok o e2 else .no
    | none => .no) else .no := by first | (rw [ev]; done) | (rw [ev]; rfl)
@[simp] theorem ev_sl {lo hi : OE} : ev F w (.sl a lo hi) e = (ev F true a e).bind fun x e1 => (evOI F lo e1).bind fun l e2 => (evOI F hi e2).bind fun h e3 => if !pl a || isFz x || (qtO lo && qtO hi) then Rs.of e3 (sliceO x l h) else .no := by first | (rw [ev]; done) | (rw [ev]; rfl)
@[simp] theorem ev_rev : ev F w (.rev a) e = (ev F true a e).bind fun x e1 => Rs.of e1 ((listOf x).map fun ds => .lst (ds.reverse.map .fz)) := by first | (rw [ev]; done) | (rw [ev]; rfl)
@[simp] theorem ev_tup {es : Es} : ev F w (.tup es) e = (evEs F es e).bind fun os e1 => if strRoom os.length then .ok (mkTup os) e1 else .no := by first | (rw [ev]; done) | (rw [ev]; rfl)
@[simp] theorem ev_lst {es : Es} : ev F w (.lst es) e = (evEs F es e).bind fun os e1 => if strRoom os.length then .ok (.lst os) e1 else .no := by first | (rw [ev]; done) | (rw [ev]; rfl)
@[simp] theorem ev_call {f : Str} {es : As} : ev F w (.call f es) e = (evAs F es e).bind fun as e1 => match F f (as.map Ar.o) with
    | .ok o ps => if !hasBor as || (lfO o && lfE (lentE as ps)) then .ok o (backAr as ps e1) else .no
    | .ex c ps => if !hasBor as || lfE (lentE as ps) then .ex c (backAr as ps e1) else .no
    | .no => .no := by first | (rw [ev]; done) | (rw [ev]; rfl)
@[simp] theorem ev_bl1 {f : Bl1} : ev F w (.bl1 f a) e = (ev F true a e).bind fun x e1 => Rs.of e1 (bl1O f x) := by first | (rw [ev]; done) | (rw [ev]; rfl)
@[simp] theorem ev_isi {t : Ty} : ev F w (.isi a t) e = (ev F true a e).bind fun x e1 => Rs.of e1 ((isiO (er x) t).map fun r => .fz (.bool r)) := by first | (rw [ev]; done) | (rw [ev]; rfl)
@[simp] theorem ev_isx {cs l : List Str} : ev F w (.isx a cs l) e = (ev F true a e).bind fun x e1 => Rs.of e1 ((isxO l cs x).map fun r => .fz (.bool r)) := by first | (rw [ev]; done) | (rw [ev]; rfl)
@[simp] theorem ev_cmpA {op : Cop} {i : Nat} : ev F w (.cmpA op i b) e = (match e[i]? with
    | some (some _) => (ev F true b e).bind fun y e2 => (match e2[i]? with
      | some (some x) => Rs.of e2 ((cmpO op x y).map fun r => .fz (.bool r))
      | _ => .no)
    | _ => .no) := by first | (rw [ev]; done) | (rw [ev]; rfl)
@[simp] theorem evAs_borA {i : Nat} {r : As} : evAs F (.cons (.borA i) a r) e = (match e[i]? with
    | some (some _) => (evAs F r e).bind fun xs e2 => (match e2[i]? with
      | some (some x) => .ok (.bor x :: xs) e2
      | _ => .no)
    | _ => .no) := by first | (rw [evAs]; done) | (rw [evAs]; rfl)
@[simp] theorem ev_lkv {i : Nat} : ev F w (.lkv i) e = (match e[i]? with
    | some (some (.dk kvs)) => .ok (.fz (.dict ((.none, .bool true) :: erk kvs))) (e.set i (some (.fz (.dict ((.none, .bool true) :: erk kvs)))))
    | some (some (.fz d)) => .ok (.fz d) e
    | _ => .no) := by first | (rw [ev]; done) | (rw [ev]; rfl)
@[simp] theorem ev_lck : ev F w (.lck a) e = (ev F false a e).bind fun x e1 => match x with
    | .dk kvs => .ok (.fz (.dict ((.none, .bool true) :: erk kvs))) e1
    | _ => .no := by first | (rw [ev]; done) | (rw [ev]; rfl)
@[simp] theorem ev_frz : ev F w (.frz a) e = (ev F false a e).bind fun x e1 => .ok (.fz (er x)) e1 := by first | (rw [ev]; done) | (rw [ev]; rfl)
@[simp] theorem ev_join : ev F w (.join a b) e = (ev F false a e).bind fun x e1 => match x with
    | .fz (.str s) => (ev F true b e1).bind fun y e2 => Rs.of e2 (joinO s y)
    | _ => .no := by first | (rw [ev]; done) | (rw [ev]; rfl)
@[simp] theorem ev_mut {m : Mt} {p : Pa} {es : Es} : ev F w (.mut m p es) e = (match getP F p e with
    | some (i, .lst os, put) => if qts es then (evEs F es e).calm.bind fun as _ => (match mutO m os as with
        | some (os', r) => .ok r (e.set i (some (put (.lst os'))))
        | none => .no)
      else (evEs F es (e.set i none)).bind fun as e1 => (match mutO m os as with
        | some (os', r) => .ok r (e1.set i (some (put (.lst os'))))
        | none => .no)
    | _ => .no) := by first | (rw [ev]; done) | (rw [ev]; rfl)
@[simp] theorem ev_lrg : ev F w (.lrg a) e = (ev F false a e).bind fun x e1 => (intOf x e1).bind fun n e1 => if rngOk n && Nat.ble n.toNat 16777216 then .ok (.lst ((rngD 0 n.toNat).map .fz)) e1 else .no := by first | (rw [ev]; done) | (rw [ev]; rfl)
@[simp] theorem ev_lrg2 : ev F w (.lrg2 a b) e = (ev F false a e).bind fun x e1 => (intOf x e1).bind fun l e1 => (ev F false b e1).bind fun y e2 => (intOf y e2).bind fun h e2 => if rngOk l && rngOk h && Nat.ble (h - l).toNat 16777216 then .ok (.lst ((rngD l (h - l).toNat).map .fz)) e2 else .no := by first | (rw [ev]; done) | (rw [ev]; rfl)
@[simp] theorem ev_sdf {i : Nat} {k v : E} : ev F w (.sdf i k v) e = (match e[i]? with
    | some (some (.dk kvs)) => if qt k && (qt v && decide (kvs.length < sizeLine)) then (ev F false k e).calm.bind fun x _ => (match keyOf (er x) with
        | some kk => (match get1 (sdfK kvs kk) kk with
          | some (.lst os) => (ev F false v (e.set i (some (.dk (sdfK kvs kk))))).calm.bind fun y _ => (match mutO .append os [y] with
            | some (os', r) => .ok r (e.set i (some (.dk (put1 (sdfK kvs kk) kk (.lst os')))))
            | none => .no)
          | _ => .no)
        | none => .no) else .no
    | _ => .no) := by first | (rw [ev]; done) | (rw [ev]; rfl)
@[simp] theorem ev_mutA {m : Mt} {i : Nat} {es : Es} : ev F w (.mutA m i es) e = (match e[i]? with
    | some (some (.lst _)) => (evEs F es e).bind fun as e1 => (match e1[i]? with
      | some (some (.lst os)) => (match mutO m os as with
        | some (os', r) => .ok r (e1.set i (some (.lst os')))
        | none => .no)
      | _ => .no)
    | _ => .no) := by first | (rw [ev]; done) | (rw [ev]; rfl)
@[simp] theorem ev_dkn : ev F w .dkn e = .ok (.dk []) e := by first | (rw [ev]; done) | (rw [ev]; rfl)
@[simp] theorem ev_dtn : ev F w .dtn e = .ok (.dt []) e := by first | (rw [ev]; done) | (rw [ev]; rfl)
@[simp] theorem ev_mm {g : Bool} : ev F w (.mm g a b) e = (ev F false a e).bind fun x e1 => (intOf x e1).bind fun i e1 => (ev F false b e1).bind fun y e2 => (intOf y e2).bind fun j e2 => .ok (.fz (.int (if g then (if j > i then j else i) else (if j < i then j else i)))) e2 := by first | (rw [ev]; done) | (rw [ev]; rfl)
@[simp] theorem ev_srt {rv : Bool} : ev F w (.srt a rv) e = (ev F false a e).bind fun x e1 => Rs.of e1 (srtO rv x) := by first | (rw [ev]; done) | (rw [ev]; rfl)
@[simp] theorem ev_ixA {i : Nat} : ev F w (.ixA i b) e = (match e[i]? with
    | some (some _) => (ev F false b e).bind fun y e1 => (match e1[i]? with
      | some (some x) => (match itemO x (er y) with
        | some o => if isFz o then .ok o e1 else .no
        | none => .no)
      | _ => .no)
    | _ => .no) := by first | (rw [ev]; done) | (rw [ev]; rfl)
@[simp] theorem getP_nm {i : Nat} : getP F (.nm i) e = (match e[i]? with
    | some (some o) => some (i, o, fun x => x)
    | _ => none) := by first | (rw [getP]; done) | (rw [getP]; rfl)
theorem getP_ix {p : Pa} {k : E} : getP F (.ix p k) e = (if qt k then (match getP F p e with
    | some (i, o, put) => (match ev F false k e with
      | .ok (.fz (.int j)) _ => (match o with
        | .lst os => (match ixN os.length j with
          | some n => (match os[n]? with
            | some x => some (i, x, fun y => put (.lst (os.set n y)))
            | none => none)
          | none => none)
        | .tup os => (match ixN os.length j with
          | some n => (match os[n]? with
            | some x => some (i, x, fun y => put (.tup (os.set n y)))
            | none => none)
          | none => none)
        | .dk kvs => (match get1 kvs (.inl j) with
          | some x => some (i, x, fun y => put (.dk (put1 kvs (.inl j) y)))
          | none => none)
        | _ => none)
      | .ok (.fz (.str j)) _ => (match o with
        | .dk kvs => (match get1 kvs (.inr j) with
          | some x => some (i, x, fun y => put (.dk (put1 kvs (.inr j) y)))
          | none => none)
        | _ => none)
      | _ => none)
    | none => none) else none) := by first | (rw [getP]; done) | (rw [getP]; rfl)
@[simp] theorem mutO_append {os : List O} {x : O} (h : os.length < sizeLine) : mutO .append os [x] = some (os ++ [x], .fz .none) := by simp only [mutO]; rw [if_pos (decide_eq_true h)]
@[simp] theorem backAr_nil {ps : Env} : backAr [] ps e = e := by cases ps <;> rfl
theorem backAr_none {r : List Ar} : backAr r [] e = e := by cases r with
  | nil => rfl
  | cons a r => cases a <;> rfl
@[simp] theorem backAr_val {o : O} {r : List Ar} {ps : Env} : backAr (.val o :: r) ps e = backAr r ps.tail e := by
  cases ps with
  | nil => rw [List.tail_nil, backAr_none, backAr_none]
  | cons p ps => rfl
@[simp] theorem backAr_bor {o : O} {r : List Ar} {ps : Env} : backAr (.bor o :: r) ps e = backAr r ps.tail e := by
  cases ps with
  | nil => rw [List.tail_nil, backAr_none, backAr_none]
  | cons p ps => rfl
theorem lf_blank {ps : Env} : lfE (ps.map fun _ => none) = true := by
  induction ps with
  | nil => rfl
  | cons p ps ih => exact ih
@[simp] theorem lf_lent_nil {ps : Env} : lfE (lentE [] ps) = true := by
  cases ps with
  | nil => rfl
  | cons p ps => exact lf_blank (ps := p :: ps)
theorem lf_lent_emp {r : List Ar} : lfE (lentE r []) = true := by cases r with
  | nil => rfl
  | cons a r => cases a <;> rfl
@[simp] theorem lf_lent_val {o : O} {r : List Ar} {ps : Env} : lfE (lentE (.val o :: r) ps) = lfE (lentE r ps.tail) := by
  cases ps with
  | nil => rw [List.tail_nil, lf_lent_emp, lf_lent_emp]
  | cons p ps => rfl
@[simp] theorem lf_lent_bor {o : O} {r : List Ar} {ps : Env} : lfE (lentE (.bor o :: r) ps) = lfE (lentE r ps.tail) := by
  cases ps with
  | nil => rw [List.tail_nil, lf_lent_emp, lf_lent_emp]
  | cons p ps => rfl
@[simp] theorem evEs_nil : evEs F .nil e = .ok [] e := by first | (rw [evEs]; done) | (rw [evEs]; rfl)
@[simp] theorem evEs_cons {r : Es} : evEs F (.cons a r) e = (ev F false a e).bind fun x e1 => (evEs F r e1).bind fun xs e2 => .ok (x :: xs) e2 := by first | (rw [evEs]; done) | (rw [evEs]; rfl)
@[simp] theorem evOI_no : evOI F .no e = .ok none e := by first | (rw [evOI]; done) | (rw [evOI]; rfl)
@[simp] theorem evOI_so : evOI F (.so a) e = (ev F false a e).bind fun x e1 => (intOf x e1).bind fun i e2 => .ok (some i) e2 := by first | (rw [evOI]; done) | (rw [evOI]; rfl)
@[simp] theorem evC_no : evC F .no e = .ok true e := by first | (rw [evC]; done) | (rw [evC]; rfl)
@[simp] theorem evC_so : evC F (.so a) e = (ev F false a e).bind fun x e1 => boolOf x e1 := by first | (rw [evC]; done) | (rw [evC]; rfl)
@[simp] theorem evAs_nil : evAs F .nil e = .ok [] e := by first | (rw [evAs]; done) | (rw [evAs]; rfl)
@[simp] theorem evAs_val {r : As} : evAs F (.cons .val a r) e = (ev F false a e).bind fun x e1 => (evAs F r e1).bind fun xs e2 => .ok (.val x :: xs) e2 := by first | (rw [evAs]; done) | (rw [evAs]; rfl)
@[simp] theorem evAs_lend {i : Nat} {r : As} : evAs F (.cons (.lend i) a r) e = (match e[i]? with
    | some (some o) => (evAs F r (e.set i none)).bind fun xs e2 => .ok (.lend i o :: xs) e2
    | _ => .no) := by first | (rw [evAs]; done) | (rw [evAs]; rfl)
@[simp] theorem evAs_bor {r : As} : evAs F (.cons .bor a r) e = if pl a then (ev F true a e).bind fun x e1 => (evAs F r e1).bind fun xs e2 => if isFz x || qtA r then .ok (.bor x :: xs) e2 else .no else .no := by first | (rw [evAs]; done) | (rw [evAs]; rfl)
@[simp] theorem evIt_seq : evIt F (.seq a) e = (ev F false a e).bind fun x e1 => match er x with
    | .list ds => .ok ds e1
    | .tuple ds => .ok ds e1
    | .dict ((.none, .bool true) :: r) => .ok (r.map (·.1)) e1
    | .str s => .ok (s.cps.toList.map fun c => .str ⟨#[c]⟩) e1
    | _ => .no := by first | (rw [evIt]; done) | (rw [evIt]; rfl)
@[simp] theorem evIt_rng1 : evIt F (.rng1 a) e = (ev F false a e).bind fun x e1 => (intOf x e1).bind fun n e1 => if rngOk n then .ok (rngD 0 n.toNat) e1 else .no := by first | (rw [evIt]; done) | (rw [evIt]; rfl)
@[simp] theorem evIt_rng2 : evIt F (.rng2 a b) e = (ev F false a e).bind fun x e1 => (intOf x e1).bind fun l e1 => (ev F false b e1).bind fun y e2 => (intOf y e2).bind fun h e2 => if rngOk l && rngOk h then .ok (rngD l (h - l).toNat) e2 else .no := by first | (rw [evIt]; done) | (rw [evIt]; rfl)
@[simp] theorem evIt_zip : evIt F (.zip a b) e = (ev F false a e).bind fun x e1 => (ev F false b e1).bind fun y e2 => match er x, er y with
    | .list xs, .list ys => .ok ((xs.zip ys).map fun p => .tuple [p.1, p.2]) e2
    | _, _ => .no := by first | (rw [evIt]; done) | (rw [evIt]; rfl)
@[simp] theorem evIt_enum : evIt F (.enum a) e = (ev F false a e).bind fun x e1 => match er x with
    | .list ds => .ok (ds.zipIdx.map fun p => .tuple [.int p.2, p.1]) e1
    | _ => .no := by first | (rw [evIt]; done) | (rw [evIt]; rfl)
/-- loops by name -/
def wh (F : Fns) (n : Nat) (c : E) (b : Ss) (m : Nat) (e : Env) : Rs Fl := whlRun (fun e => (ev F false c e).bind fun x e1 => boolOf x e1) (fun e => exs F n b e) m e
def fo (F : Fns) (n : Nat) (tg : Tg) (b : Ss) (ds : List PyData) (e : Env) : Rs Fl := forRun tg (fun e => exs F n b e) ds e
def foO (F : Fns) (n t i : Nat) (b : Ss) (dn os : List O) (e : Env) : Rs Fl := foORun t i (fun e => exs F n b e) dn os e
def aftO (t i : Nat) (go : O → Env → Rs Fl) (r : Rs Fl) : Rs Fl := r.bind fun f e2 => (match f, e2[t]? with
    | .nx, some (some o') => go o' (e2.set t none)
    | .ct, some (some o') => go o' (e2.set t none)
    | _, _ => .no)
@[simp] theorem foO_nil {t i : Nat} {b : Ss} {dn : List O} : foO F n t i b dn [] e = .ok .nx ((e.set i (some (.lst dn))).set t none) := rfl
theorem foO_cons {t i : Nat} {b : Ss} {dn os : List O} {o : O} : foO F n t i b dn (o :: os) e = aftO t i (fun o' e' => foO F n t i b (dn ++ [o']) os e') (exs F n b (e.set t (some o))) := rfl
theorem aftO_nx {t i : Nat} {go : O → Env → Rs Fl} {o : O} (h : e[t]? = some (some o)) : aftO t i go (.ok .nx e) = go o (e.set t none) := by unfold aftO; simp only [Rs.bind, h]
def co (F : Fns) (tg : Tg) (own : List Nat) (c : OE) (elt : E) (ds : List PyData) (e : Env) : Rs (List O) := compRun tg own (fun e => evC F c e) (fun e => ev F false elt e) ds e
@[simp] theorem ev_comp {elt : E} {tg : Tg} {it : It} {c : OE} {own : List Nat} : ev F w (.comp elt tg it c own) e = (evIt F it e).bind fun ds e1 => (co F tg own c elt ds (wipeE e1 own)).calm.bind fun os e2 => if strRoom os.length then .ok (.lst os) e2 else .no := by first | (rw [ev]; done) | (rw [ev]; rfl)
@[simp] theorem co_nil {tg : Tg} {own : List Nat} {c : OE} {elt : E} : co F tg own c elt [] e = .ok [] e := rfl
theorem co_cons {tg : Tg} {own : List Nat} {c : OE} {elt : E} {d : PyData} {ds : List PyData} : co F tg own c elt (d :: ds) e = (match setTg tg d (wipeE e own) with
    | none => .no
    | some e1 => (evC F c e1).bind fun b e2 =>
      if b then (ev F false elt e2).bind fun o e3 => (co F tg own c elt ds (wipeE e3 own)).bind fun os e4 => .ok (o :: os) e4
      else co F tg own c elt ds (wipeE e2 own)) := rfl
/-- behind a loop's body -/
def aft (go : Env → Rs Fl) (r : Rs Fl) : Rs Fl := r.bind fun f e2 => (match f with
      | .bk => .ok .nx e2
      | .rt o => .ok (.rt o) e2
      | _ => go e2)
@[simp] theorem aft_nx {go : Env → Rs Fl} : aft go (.ok .nx e) = go e := rfl
@[simp] theorem aft_ct {go : Env → Rs Fl} : aft go (.ok .ct e) = go e := rfl
@[simp] theorem aft_bk {go : Env → Rs Fl} : aft go (.ok .bk e) = .ok .nx e := rfl
@[simp] theorem aft_rt {go : Env → Rs Fl} {o : O} : aft go (.ok (.rt o) e) = .ok (.rt o) e := rfl
theorem wh_succ {c : E} {b : Ss} {m : Nat} : wh F n c b (m + 1) e = ((ev F false c e).bind fun x e1 => boolOf x e1).bind fun r e1 => if r then aft (wh F n c b m) (exs F n b e1) else .ok .nx e1 := rfl
@[simp] theorem fo_nil {tg : Tg} {b : Ss} : fo F n tg b [] e = .ok .nx e := rfl
theorem fo_cons {tg : Tg} {b : Ss} {d : PyData} {ds : List PyData} : fo F n tg b (d :: ds) e = (match setTg tg d e with
    | none => .no
    | some e1 => aft (fo F n tg b ds) (exs F n b e1)) := rfl
@[simp] theorem ex_set {i : Nat} : ex F n (.set i a) e = (ev F false a e).bind fun o e1 => .ok .nx (e1.set i (some o)) := by first | (rw [ex]; done) | (rw [ex]; rfl)
@[simp] theorem ex_asg {t : Tg} : ex F n (.asg t a) e = (ev F false a e).bind fun o e1 => (match setTgO t o e1 with
    | some e2 => .ok .nx e2
    | none => .no) := by first | (rw [ex]; done) | (rw [ex]; rfl)
@[simp] theorem ex_par {i j : Nat} : ex F n (.par i j a b) e = (evEs F (.cons a (.cons b .nil)) e).bind fun os e2 => (match os with
    | [x, y] => .ok .nx ((e2.set i (some x)).set j (some y))
    | _ => .no) := by first | (rw [ex]; done) | (rw [ex]; rfl)
@[simp] theorem ex_par3 {i j l : Nat} {c : E} : ex F n (.par3 i j l a b c) e = (evEs F (.cons a (.cons b (.cons c .nil))) e).bind fun os e2 => (match os with
    | [x, y, z] => .ok .nx (((e2.set i (some x)).set j (some y)).set l (some z))
    | _ => .no) := by first | (rw [ex]; done) | (rw [ex]; rfl)
@[simp] theorem ex_aug {i : Nat} {op : Aop} : ex F n (.aug i op a) e = (match e[i]? with
    | some (some (.fz d)) => (ev F false a e).bind fun y e1 => (match augO op (.fz d) y with
      | some z => .ok .nx (e1.set i (some z))
      | none => .no)
    | _ => .no) := by first | (rw [ex]; done) | (rw [ex]; rfl)
@[simp] theorem ex_put {p : Pa} {k : E} : ex F n (.put p k a) e = (ev F false a e).bind fun x e1 => if qt k then (match getP F p e1 with
    | some (i, .lst os, put) => (match ev F false k e1 with
      | .ok (.fz (.int j)) _ => (match ixN os.length j with
        | some m => .ok .nx (e1.set i (some (put (.lst (os.set m x)))))
        | none => .no)
      | _ => .no)
    | some (i, .dk kvs, put) => (match ev F false k e1 with
      | .ok (.fz d) _ => (match keyOf d with
        | some kk => if decide (kvs.length < sizeLine) then .ok .nx (e1.set i (some (put (.dk (put1 kvs kk x))))) else .no
        | none => .no)
      | _ => .no)
    | some (i, .dt kvs, put) => (match ev F false k e1 with
      | .ok (.fz d) _ => (match keyTO d with
        | some kk => if decide (kvs.length < sizeLine) then .ok .nx (e1.set i (some (put (.dt (put1 kvs kk x))))) else .no
        | none => .no)
      | _ => .no)
    | _ => .no) else .no := by first | (rw [ex]; done) | (rw [ex]; rfl)
@[simp] theorem ex_putA {i : Nat} {k : E} : ex F n (.putA i k a) e = (ev F false a e).bind fun x e1 => (match e1[i]? with
    | some (some _) => (ev F false k e1).bind fun y e2 => (match y, e2[i]? with
      | .fz (.int j), some (some (.lst os)) => (match ixN os.length j with
        | some m => .ok .nx (e2.set i (some (.lst (os.set m x))))
        | none => .no)
      | _, _ => .no)
    | _ => .no) := by first | (rw [ex]; done) | (rw [ex]; rfl)
@[simp] theorem ex_puts2 {i : Nat} {v : E} : ex F n (.puts2 i a b v) e = (ev F false v e).bind fun x e1 => if qt a && qt b then (match x, e1[i]? with
    | .fz (.tuple [d1, d2]), some (some (.lst os)) => (match ev F false a e1 with
      | .ok (.fz (.int j)) _ => (match ixN os.length j with
        | some m => (match ev F false b (e1.set i (some (.lst (os.set m (.fz d1))))) with
          | .ok (.fz (.int j2)) _ => (match ixN os.length j2 with
            | some m2 => .ok .nx (e1.set i (some (.lst ((os.set m (.fz d1)).set m2 (.fz d2)))))
            | none => .no)
          | _ => .no)
        | none => .no)
      | _ => .no)
    | _, _ => .no) else .no := by first | (rw [ex]; done) | (rw [ex]; rfl)
@[simp] theorem ex_expr : ex F n (.expr a) e = (ev F false a e).bind fun _ e1 => .ok .nx e1 := by first | (rw [ex]; done) | (rw [ex]; rfl)
@[simp] theorem ex_ite {s t : Ss} : ex F n (.ite a s t) e = ((ev F false a e).bind fun x e1 => boolOf x e1).bind fun r e1 => if r then exs F n s e1 else exs F n t e1 := by first | (rw [ex]; done) | (rw [ex]; rfl)
@[simp] theorem ex_forr {tg : Tg} {it : It} {b : Ss} : ex F n (.forr tg it b) e = (evIt F it e).bind fun ds e1 => fo F n tg b ds e1 := by rw [ex]; rfl
@[simp] theorem ex_whl {b : Ss} : ex F n (.whl a b) e = wh F n a b n e := by rw [ex]; rfl
@[simp] theorem ex_forO {t i : Nat} {b : Ss} : ex F n (.forO t i b) e = (match e[i]? with
    | some (some (.lst os)) => foO F n t i b [] os (e.set i none)
    | _ => .no) := by first | (rw [ex]; done) | (rw [ex]; rfl)
@[simp] theorem ex_ret : ex F n (.ret a) e = (ev F false a e).bind fun o e1 => .ok (.rt o) e1 := by first | (rw [ex]; done) | (rw [ex]; rfl)
@[simp] theorem ex_retN : ex F n .retN e = .ok (.rt (.fz .none)) e := by first | (rw [ex]; done) | (rw [ex]; rfl)
@[simp] theorem ex_brk : ex F n .brk e = .ok .bk e := by first | (rw [ex]; done) | (rw [ex]; rfl)
@[simp] theorem ex_cnt : ex F n .cnt e = .ok .ct e := by first | (rw [ex]; done) | (rw [ex]; rfl)
@[simp] theorem ex_pass : ex F n .pass e = .ok .nx e := by first | (rw [ex]; done) | (rw [ex]; rfl)
@[simp] theorem ex_raise {q m : Str} : ex F n (.raise q m) e = .ex q e := by first | (rw [ex]; done) | (rw [ex]; rfl)
@[simp] theorem ex_trys {b s : Ss} {h : Str} {i : Nat} {l : List Str} : ex F n (.trys b h i l s) e = (match exs F n b e with
    | .ok f e1 => .ok f e1
    | .ex c e1 => if decide (c ∈ l) then (if excSub c h then (match exs F n s (e1.set i (some (.fz (excD c)))) with
        | .ok f e2 => .ok f (e2.set i none)
        | _ => .no) else .ex c e1) else .no
    | .no => .no) := by first | (rw [ex]; done) | (rw [ex]; rfl)
@[simp] theorem ex_drop {i : Nat} : ex F n (.drop i) e = .ok .nx (e.set i none) := by first | (rw [ex]; done) | (rw [ex]; rfl)
@[simp] theorem ex_frz {i : Nat} : ex F n (.frz i) e = (match e[i]? with
    | some (some o) => .ok .nx (e.set i (some (.fz (er o))))
    | _ => .no) := by first | (rw [ex]; done) | (rw [ex]; rfl)
/-- then -/
def thn2 (go : Env → Rs Fl) (r : Rs Fl) : Rs Fl := r.bind fun f e1 => (match f with
    | .nx => go e1
    | f => .ok f e1)
@[simp] theorem thn2_nx {go : Env → Rs Fl} : thn2 go (.ok .nx e) = go e := rfl
@[simp] theorem thn2_ex {go : Env → Rs Fl} {q : Str} : thn2 go (.ex q e) = .ex q e := rfl
@[simp] theorem aft_ex {go : Env → Rs Fl} {q : Str} : aft go (.ex q e) = .ex q e := rfl
@[simp] theorem thn2_bk {go : Env → Rs Fl} : thn2 go (.ok .bk e) = .ok .bk e := rfl
@[simp] theorem thn2_ct {go : Env → Rs Fl} : thn2 go (.ok .ct e) = .ok .ct e := rfl
@[simp] theorem thn2_rt {go : Env → Rs Fl} {o : O} : thn2 go (.ok (.rt o) e) = .ok (.rt o) e := rfl
@[simp] theorem exs_nil : exs F n .nil e = .ok .nx e := by first | (rw [exs]; done) | (rw [exs]; rfl)
@[simp] theorem exs_cons {s : Rim.S} {r : Ss} : exs F n (.cons s r) e = thn2 (exs F n r) (ex F n s e) := by rw [exs]; rfl
@[simp] theorem thn2_ite {go : Env → Rs Fl} {c : Prop} [Decidable c] {a b : Rs Fl} : thn2 go (if c then a else b) = if c then thn2 go a else thn2 go b := by split <;> rfl
@[simp] theorem aft_ite {go : Env → Rs Fl} {c : Prop} [Decidable c] {a b : Rs Fl} : aft go (if c then a else b) = if c then aft go a else aft go b := by split <;> rfl
@[simp] theorem bind_ite {α β : Type} {c : Prop} [Decidable c] {a b : Rs α} {f : α → Env → Rs β} : (if c then a else b).bind f = if c then a.bind f else b.bind f := by split <;> rfl
/-! ### operations -/
section
variable {i j : Int}
@[simp] theorem o_add : binO .add (.fz (.int i)) (.fz (.int j)) = some (.fz (.int (i + j))) := rfl
@[simp] theorem o_addT {x y : PyData} {xs ys : List PyData} (h : strRoom ((x :: xs).length + (y :: ys).length) = true) : binO .add (.fz (.tuple (x :: xs))) (.fz (.tuple (y :: ys))) = some (.fz (.tuple (x :: xs ++ y :: ys))) := by
  simp only [binO]
  rw [if_pos (by rw [h]; rfl)]
@[simp] theorem o_sub : binO .sub (.fz (.int i)) (.fz (.int j)) = some (.fz (.int (i - j))) := rfl
@[simp] theorem o_mul (h : cmulB i j = true) : binO .mul (.fz (.int i)) (.fz (.int j)) = some (.fz (.int (i * j))) := by simp only [binO]; rw [if_pos h]
@[simp] theorem o_mulS {x : Str} (h : Nat.ble j.natAbs 1 = true) : binO .mul (.fz (.str x)) (.fz (.int j)) = some (.fz (.str (if j < 1 then Str.empty else x))) := by simp only [binO]; rw [if_pos h]
@[simp] theorem o_fdiv (h : cdivB j = true) : binO .fdiv (.fz (.int i)) (.fz (.int j)) = some (.fz (.int (i / j))) := by simp only [binO]; rw [if_pos h]
theorem o_fdivN (h : cdivN j = true) : binO .fdiv (.fz (.int i)) (.fz (.int j)) = some (.fz (.int (i.fdiv j))) := by
  have hb : cdivB j = false := by
    unfold cdivN at h
    unfold cdivB
    have := of_decide_eq_true (Bool.and_eq_true_iff.mp h).1
    rw [decide_eq_false (by omega)]
    rfl
  simp only [binO]
  rw [if_neg (by rw [hb]; simp), if_pos h]
@[simp] theorem o_mod (h : 0 < j) : binO .mod (.fz (.int i)) (.fz (.int j)) = some (.fz (.int (i % j))) := by simp only [binO]; rw [if_pos (decide_eq_true h)]
@[simp] theorem o_pow (h : cpowB i j = true) : binO .pow (.fz (.int i)) (.fz (.int j)) = some (.fz (.int (i ^ j.toNat))) := by simp only [binO]; rw [if_pos h]
@[simp] theorem o_neg : negO (.fz (.int i)) = some (.fz (.int (-i))) := rfl
@[simp] theorem c_lt : cmpO .lt (.fz (.int i)) (.fz (.int j)) = some (decide (i < j)) := by unfold cmpO; simp only [er_fz]
@[simp] theorem c_le : cmpO .le (.fz (.int i)) (.fz (.int j)) = some (decide (i ≤ j)) := by unfold cmpO; simp only [er_fz]
@[simp] theorem c_gt : cmpO .gt (.fz (.int i)) (.fz (.int j)) = some (decide (j < i)) := by unfold cmpO; simp only [er_fz]
@[simp] theorem c_ge : cmpO .ge (.fz (.int i)) (.fz (.int j)) = some (decide (j ≤ i)) := by unfold cmpO; simp only [er_fz]
@[simp] theorem c_eq : cmpO .eq (.fz (.int i)) (.fz (.int j)) = some (decide (i = j)) := by unfold cmpO; simp only [er_fz]
@[simp] theorem c_ne : cmpO .ne (.fz (.int i)) (.fz (.int j)) = some (!decide (i = j)) := by unfold cmpO; simp only [er_fz]
@[simp] theorem c_eqS {i j : Str} : cmpO .eq (.fz (.str i)) (.fz (.str j)) = some (decide (i = j)) := by unfold cmpO; simp only [er_fz]
@[simp] theorem c_neS {i j : Str} : cmpO .ne (.fz (.str i)) (.fz (.str j)) = some (!decide (i = j)) := by unfold cmpO; simp only [er_fz]
@[simp] theorem l_len_l {ds : List PyData} : bl1O .len (.fz (.list ds)) = some (.fz (.int ds.length)) := rfl
@[simp] theorem l_len_t {ds : List PyData} : bl1O .len (.fz (.tuple ds)) = some (.fz (.int ds.length)) := rfl
@[simp] theorem l_len_o {ds : List O} : bl1O .len (.lst ds) = some (.fz (.int ds.length)) := rfl
@[simp] theorem l_abs : bl1O .abs (.fz (.int i)) = some (.fz (.int (if i < 0 then -i else i))) := rfl
@[simp] theorem i_list {ds : List PyData} : itemO (.fz (.list ds)) (.int i) = (atI ds i).map .fz := by
  show (match (atI ds i).map O.fz with | some o => some o | none => dictO (.fz (.list ds)) (.int i)) = _
  cases atI ds i <;> rfl
@[simp] theorem i_tuple {ds : List PyData} : itemO (.fz (.tuple ds)) (.int i) = (atI ds i).map .fz := by
  show (match (atI ds i).map O.fz with | some o => some o | none => dictO (.fz (.tuple ds)) (.int i)) = _
  cases atI ds i <;> rfl
@[simp] theorem i_lst {ds : List O} : itemO (.lst ds) (.int i) = atI ds i := by
  show (match atI ds i with | some o => some o | none => dictO (.lst ds) (.int i)) = _
  cases atI ds i <;> rfl
@[simp] theorem i_dkS {kvs : List (Key × O)} {s : Str} : itemO (.dk kvs) (.str s) = get1 kvs (.inr s) := rfl
@[simp] theorem i_dkI {kvs : List (Key × O)} : itemO (.dk kvs) (.int i) = get1 kvs (.inl i) := rfl
@[simp] theorem i_dt {kvs : List (List Key × O)} {d : PyData} : itemO (.dt kvs) d = (keyTO d).bind fun k => get1 kvs k := by cases d <;> rfl
@[simp] theorem i_fdS {kvs : List (PyData × PyData)} {s : Str} : itemO (.fz (.dict kvs)) (.str s) = (fget kvs (.inr s)).map .fz := rfl
end
end
/-- a def's run -/
theorem run_def {T : List Df} {n k : Nat} {d : Df} {os : List O} (nd : (T.map (·.name)).Nodup) (hd : d ∈ T) (h : os.length = d.ps.length) : run T n (k + 1) d.name os = finF d (exs (run T n k) n d.body (startE d os)) := by
  show (match findD T d.name with | none => _ | some d => _) = _
  rw [findD_mem nd hd]
  exact if_pos h
end Rim
namespace Rim
open PySem PySem.Spec PyProof.Rows L2

/-! ### data that may be compared -/
def shp (n : Nat) (d : PyData) : Bool := d.canLay0 && decide (d.depth ≤ n)
theorem shaped_shp {d : PyData} : SeqAt.shaped d = shp 64 d := rfl
@[simp] theorem shp_int {n : Nat} {i : Int} : shp n (.int i) = true := by simp [shp, PyData.canLay0, PyData.depth]
@[simp] theorem shp_bool {n : Nat} {i : Bool} : shp n (.bool i) = true := by simp [shp, PyData.canLay0, PyData.depth]
@[simp] theorem shp_none {n : Nat} : shp n .none = true := by simp [shp, PyData.canLay0, PyData.depth]
@[simp] theorem shp_str {n : Nat} {s : Str} : shp n (.str s) = PyData.strOk s := by simp [shp, PyData.canLay0, PyData.depth]
theorem shp_all {n : Nat} : ∀ {ds : List PyData}, (PyData.canLayAll0 ds && decide (PyData.depthAll ds ≤ n)) = ds.all (shp n)
  | [] => by simp [PyData.canLayAll0, PyData.depthAll]
  | d :: ds => by
    have ih := shp_all (n := n) (ds := ds)
    rw [List.all_cons, ← ih, shp]
    simp only [PyData.canLayAll0, PyData.depthAll]
    cases PyData.canLay0 d <;> cases PyData.canLayAll0 ds <;> simp [Nat.max_le]
@[simp] theorem shp_list {n : Nat} {ds : List PyData} : shp (n + 1) (.list ds) = ds.all (shp n) := by
  rw [← shp_all]
  simp [shp, PyData.canLay0, PyData.depth]
@[simp] theorem shp_tuple {n : Nat} {ds : List PyData} : shp (n + 1) (.tuple ds) = ds.all (shp n) := by
  rw [← shp_all]
  simp [shp, PyData.canLay0, PyData.depth]
section
variable {a b : O} {i j : Int} {x y : Bool} {ds es : List PyData} {d u : PyData}
def shpO (a : O) : Bool := shp 64 (er a)
@[simp] theorem c_eqD (hx : shp 64 d = true) (hy : shp 64 u = true) : cmpO .eq (.fz d) (.fz u) = some (PyData.eqv d u) := by
  unfold cmpO
  simp only [er_fz]
  split
  all_goals first
    | (rename_i e; cases e; done)
    | skip
  all_goals simp_all [shaped_shp, PyData.eqv]
  all_goals first | rfl | (rename_i i j; by_cases h : i = j <;> simp [h])
@[simp] theorem c_neD (hx : shp 64 d = true) (hy : shp 64 u = true) : cmpO .ne (.fz d) (.fz u) = some (!PyData.eqv d u) := by
  unfold cmpO
  simp only [er_fz]
  split
  all_goals first
    | (rename_i e; cases e; done)
    | skip
  all_goals simp_all [shaped_shp, PyData.eqv]
  all_goals first | rfl | (rename_i i j; by_cases h : i = j <;> simp [h])
end
@[simp] theorem eqv_int {i j : Int} : PyData.eqv (.int i) (.int j) = decide (i = j) := by
  simp only [PyData.eqv]
  by_cases h : i = j <;> simp [h]
@[simp] theorem eqv_bool {i j : Bool} : PyData.eqv (.bool i) (.bool j) = (i == j) := by simp only [PyData.eqv]
@[simp] theorem eqv_str {i j : Str} : PyData.eqv (.str i) (.str j) = (i == j) := by simp only [PyData.eqv]
@[simp] theorem eqv_tuple {i j : List PyData} : PyData.eqv (.tuple i) (.tuple j) = PyData.eqvAll i j := by simp only [PyData.eqv]
@[simp] theorem eqv_list {i j : List PyData} : PyData.eqv (.list i) (.list j) = PyData.eqvAll i j := by simp only [PyData.eqv]
@[simp] theorem eqvAll_nil : PyData.eqvAll [] [] = true := by simp only [PyData.eqvAll]
@[simp] theorem eqvAll_nc {x : PyData} {r : List PyData} : PyData.eqvAll [] (x :: r) = false := by simp only [PyData.eqvAll]
@[simp] theorem eqvAll_cn {x : PyData} {r : List PyData} : PyData.eqvAll (x :: r) [] = false := by simp only [PyData.eqvAll]
@[simp] theorem eqvAll_cc {x y : PyData} {r s : List PyData} : PyData.eqvAll (x :: r) (y :: s) = (PyData.eqv x y && PyData.eqvAll r s) := by simp only [PyData.eqvAll]
@[simp] theorem cmp_lstL {op : Cop} {os : List O} {b : O} : cmpO op (.lst os) b = cmpO op (.fz (.list (ers os))) b := by unfold cmpO; rw [er_lst, er_fz]
@[simp] theorem cmp_lstR {op : Cop} {os : List O} {b : O} : cmpO op b (.lst os) = cmpO op b (.fz (.list (ers os))) := by unfold cmpO; rw [er_lst, er_fz]; rfl
@[simp] theorem cmp_tupL {op : Cop} {os : List O} {b : O} : cmpO op (.tup os) b = cmpO op (.fz (.tuple (ers os))) b := by unfold cmpO; rw [er_tup, er_fz]
@[simp] theorem cmp_tupR {op : Cop} {os : List O} {b : O} : cmpO op b (.tup os) = cmpO op b (.fz (.tuple (ers os))) := by unfold cmpO; rw [er_tup, er_fz]; rfl
mutual
theorem eqv_refl : ∀ {d : PyData}, d.canLay0 = true → PyData.eqv d d = true
  | .none, _ => by simp only [PyData.eqv]
  | .bool b, _ => by simp
  | .int i, _ => by simp
  | .str s, _ => by simp
  | .list ds, h => by rw [eqv_list]; exact eqvAll_refl (by simpa [PyData.canLay0] using h)
  | .tuple ds, h => by rw [eqv_tuple]; exact eqvAll_refl (by simpa [PyData.canLay0] using h)
  | .dict _, h => by simp [PyData.canLay0] at h
theorem eqvAll_refl : ∀ {ds : List PyData}, PyData.canLayAll0 ds = true → PyData.eqvAll ds ds = true
  | [], _ => by simp
  | d :: ds, h => by
    have h' : d.canLay0 = true ∧ PyData.canLayAll0 ds = true := by simpa [PyData.canLayAll0] using h
    rw [eqvAll_cc, eqv_refl h'.1, eqvAll_refl h'.2]
    rfl
end
theorem shp_lay {n : Nat} {d : PyData} (h : shp n d = true) : d.canLay0 = true := (Bool.and_eq_true_iff.mp h).1
/-! ### numbers -/
theorem bits_lt {i : Int} {a : Nat} (h : i.natAbs < 2 ^ a) : Builtin.Int.intBits i ≤ a := by
  unfold Builtin.Int.intBits
  split
  · omega
  · rename_i h0
    have h1 : i.natAbs ≠ 0 := by simpa using h0
    have := (Nat.log2_lt h1).mpr h
    omega
theorem cmulB_of {i j : Int} {a b : Nat} (h : i.natAbs < 2 ^ a) (h2 : j.natAbs < 2 ^ b) (h3 : a + b ≤ 134217728) : cmulB i j = true := by
  unfold cmulB
  have := bits_lt h
  have := bits_lt h2
  exact Nat.ble_eq_true_of_le (by omega)
theorem cdivB_lit {j : Int} (h : 0 < j) (h2 : j.natAbs < 2 ^ 8999) : cdivB j = true := by
  unfold cdivB
  have := (Nat.log2_lt (n := j.natAbs) (k := 8999) (by omega)).mpr h2
  rw [decide_eq_true h, decide_eq_true (by omega)]
  rfl
/-! ### comprehensions -/
theorem set_none {e : Env} {v : Nat} (h : e[v]? = some none) : e.set v none = e := by
  induction e generalizing v with
  | nil => rfl
  | cons x r ih =>
    cases v with
    | zero => simp at h; rw [h]; rfl
    | succ v => simp at h; rw [List.set_cons_succ, ih h]
/-- one name, every item, nothing stored -/
theorem co_map1 {F : Fns} {v : Nat} {elt : E} {e : Env} {g : PyData → O} (hv : e[v]? = some none) : ∀ {ds : List PyData}, (∀ d ∈ ds, ev F false elt (e.set v (some (.fz d))) = .ok (g d) (e.set v (some (.fz d)))) → co F (.nm v) [v] .no elt ds e = .ok (ds.map g) e
  | [], _ => rfl
  | d :: ds, h => by
    have ih := co_map1 hv (ds := ds) fun d hd => h d (List.mem_cons_of_mem _ hd)
    have h1 := h d List.mem_cons_self
    have w1 : wipeE e [v] = e := set_none hv
    have w2 : wipeE (e.set v (some (.fz d))) [v] = e := by
      show ((e.set v (some (.fz d))).set v none) = e
      rw [List.set_set]
      exact set_none hv
    rw [co_cons, w1]
    simp [setTg, h1, w2, ih]
/-- two names -/
theorem co_map2 {F : Fns} {v u : Nat} {elt : E} {e : Env} {g : PyData → PyData → O} (hv : e[v]? = some none) (hu : e[u]? = some none) (hvu : v ≠ u) : ∀ {ps : List (PyData × PyData)}, (∀ p ∈ ps, ev F false elt ((e.set v (some (.fz p.1))).set u (some (.fz p.2))) = .ok (g p.1 p.2) ((e.set v (some (.fz p.1))).set u (some (.fz p.2)))) →
    co F (.tp (.nm v) (.nm u)) [v, u] .no elt (ps.map fun p => .tuple [p.1, p.2]) e = .ok (ps.map fun p => g p.1 p.2) e
  | [], _ => rfl
  | p :: ps, h => by
    have ih := co_map2 hv hu hvu (ps := ps) fun d hd => h d (List.mem_cons_of_mem _ hd)
    have h1 := h p List.mem_cons_self
    have w1 : wipeE e [v, u] = e := by
      show (e.set u none).set v none = e
      rw [set_none hu, set_none hv]
    have w2 : wipeE ((e.set v (some (.fz p.1))).set u (some (.fz p.2))) [v, u] = e := by
      show ((((e.set v (some (.fz p.1))).set u (some (.fz p.2))).set u none).set v none) = e
      rw [List.set_set, List.set_comm _ _ hvu, List.set_set, set_none hu, set_none hv]
    rw [List.map_cons, co_cons, w1]
    simp [setTg, h1, w2, ih]
/-- one name, by an invariant -/
theorem co_inv {F : Fns} {v : Nat} {elt : E} (P : List O → Env → Prop) : ∀ {ds : List PyData} {acc : List O} {e : Env}, P acc e → (∀ acc e d, d ∈ ds → P acc e → ∃ o e2, ev F false elt (e.set v (some (.fz d))) = .ok o e2 ∧ P (acc ++ [o]) (e2.set v none)) →
    ∃ os e', co F (.nm v) [v] .no elt ds e = .ok os e' ∧ P (acc ++ os) e'
  | [], acc, e, h, _ => ⟨[], e, rfl, by rw [List.append_nil]; exact h⟩
  | d :: ds, acc, e, h, hs => by
    obtain ⟨o, e2, h1, h2⟩ := hs acc e d List.mem_cons_self h
    obtain ⟨os, e', g1, g2⟩ := co_inv P (ds := ds) h2 fun acc e d hd hp => hs acc e d (List.mem_cons_of_mem _ hd) hp
    refine ⟨o :: os, e', ?_, by rw [List.append_assoc] at g2; exact g2⟩
    have w : wipeE e2 [v] = e2.set v none := rfl
    have w0 : wipeE e [v] = e.set v none := rfl
    rw [co_cons, w0]
    simp [setTg, h1, w, g1]
theorem o_cat {xs : List PyData} {os : List O} : binO .add (.fz (.list xs)) (.lst os) = (match fzs os with
    | some ys => if strRoom (xs.length + ys.length) then some (.lst ((xs ++ ys).map .fz)) else none
    | none => none) := by cases h : fzs os <;> simp [binO, Rim.listOf, h]
/-- .. of those that stand a test -/
theorem co_filter1 {F : Fns} {v : Nat} {elt t : E} {e : Env} {g : PyData → O} {q : PyData → Bool} (hv : e[v]? = some none) : ∀ {ds : List PyData}, (∀ d ∈ ds, ev F false t (e.set v (some (.fz d))) = .ok (.fz (.bool (q d))) (e.set v (some (.fz d)))) →
    (∀ d ∈ ds, q d = true → ev F false elt (e.set v (some (.fz d))) = .ok (g d) (e.set v (some (.fz d)))) → co F (.nm v) [v] (.so t) elt ds e = .ok ((ds.filter q).map g) e
  | [], _, _ => rfl
  | d :: ds, h, k => by
    have ih := co_filter1 hv (ds := ds) (fun d hd => h d (List.mem_cons_of_mem _ hd)) fun d hd => k d (List.mem_cons_of_mem _ hd)
    have h1 := h d List.mem_cons_self
    have k1 := k d List.mem_cons_self
    have w1 : wipeE e [v] = e := set_none hv
    have w2 : wipeE (e.set v (some (.fz d))) [v] = e := by
      show ((e.set v (some (.fz d))).set v none) = e
      rw [List.set_set]
      exact set_none hv
    rw [co_cons, w1]
    cases hq : q d with
    | false => simp [setTg, h1, hq, w2, ih]
    | true => simp [setTg, h1, hq, k1 hq, w2, ih]
theorem fzs_map2 {α : Type} {f : α → PyData} {xs : List α} : fzs (xs.map fun x => .fz (f x)) = some (xs.map f) := by
  induction xs with
  | nil => rfl
  | cons x xs ih => rw [List.map_cons, fzs_cons, ih]; rfl
theorem strs_map {α : Type} {f : α → Str} {xs : List α} : strsOf (xs.map fun x => .str (f x)) = some (xs.map f) := by
  induction xs with
  | nil => rfl
  | cons x xs ih => rw [List.map_cons, strsOf, ih]; rfl
theorem join_map {α : Type} {f : α → Str} {xs : List α} {s : Str} (h : (((xs.map f).map (·.length)).sum + xs.length * s.length) ≤ sizeLine) : joinO s (.lst (xs.map fun x => .fz (.str (f x)))) = some (.fz (.str (Txt.join s (xs.map f)))) := by
  unfold joinO
  rw [show Rim.listOf (.lst (xs.map fun x => O.fz (.str (f x)))) = some (xs.map fun x => PyData.str (f x)) from fzs_map2]
  simp only [strs_map, List.length_map]
  rw [if_pos (show strRoom _ = true from Nat.ble_eq_true_of_le h)]
theorem ers_map2 {α : Type} {f : α → O} {xs : List α} : ers (xs.map f) = xs.map fun x => er (f x) := by
  induction xs with
  | nil => rfl
  | cons x xs ih => rw [List.map_cons, ers_cons, ih]; rfl
/-! ### a def's run by its body -/
def finB (np : Nat) (b : Ss) (r : Rs Fl) : FR := match r with
  | .ok (.rt o) e => .ok o ((wipeE e (asSs b)).take np)
  | .ok .nx e => .ok (.fz .none) ((wipeE e (asSs b)).take np)
  | .ex c e => .ex c ((wipeE e (asSs b)).take np)
  | _ => .no
/-- np parameters, nl other names -/
def runB (F : Fns) (n np nl : Nat) (b : Ss) (os : List O) : FR := finB np b (exs F n b (os.map some ++ List.replicate nl none))
theorem run_b {T : List Df} {n k : Nat} {d : Df} {os : List O} (nd : (T.map (·.name)).Nodup) (hd : d ∈ T) (h : os.length = d.ps.length) : run T n (k + 1) d.name os = runB (run T n k) n d.ps.length (d.N.length - d.ps.length) d.body os := by
  rw [run_def nd hd h]
  unfold runB startE
  rw [h]
  generalize exs (run T n k) n d.body _ = r
  cases r with
  | ok f e => cases f <;> rfl
  | ex c e => rfl
  | no => rfl
@[simp] theorem finB_rt {np : Nat} {b : Ss} {o : O} {e : Env} : finB np b (.ok (.rt o) e) = .ok o ((wipeE e (asSs b)).take np) := rfl
@[simp] theorem finB_ex {np : Nat} {b : Ss} {q : Str} {e : Env} : finB np b (.ex q e) = .ex q ((wipeE e (asSs b)).take np) := rfl
@[simp] theorem finB_nx {np : Nat} {b : Ss} {e : Env} : finB np b (.ok .nx e) = .ok (.fz .none) ((wipeE e (asSs b)).take np) := rfl
@[simp] theorem finB_ite {np : Nat} {b : Ss} {c : Prop} [Decidable c] {x y : Rs Fl} : finB np b (if c then x else y) = if c then finB np b x else finB np b y := by split <;> rfl
end Rim
namespace Rim
open PySem PySem.Spec PyProof.Rows L2

/-! ### the laws' own helpers -/
abbrev B_common_1 : Ss :=
    (.cons (.par 0 1 (.var 1) (.bin .mod (.var 0) (.var 1)))
      .nil)
def B_common : Ss :=
    (.cons (.whl (.cmp .ne (.var 1) (.int 0)) B_common_1)
      (.cons (.ret (.var 0))
      .nil))
-- common: ps ['one', 'other'], N ['one', 'other']
def B_law_cell_at : Ss :=
    (.cons (.ite (.cmp .lt (.var 1) (.bl1 .len (.var 0)))
      (.cons (.ret (.ix (.var 0) (.var 1)))
      .nil)
      .nil)
      (.cons (.ret (.int 0))
      .nil))
-- _law_cell_at: ps ['_law_script', '_law_k'], N ['_law_script', '_law_k']
abbrev B_law_big_1 : Ss :=
    (.cons (.set 7 (.bin .add (.bin .add (.bin .mod (.call "_law_cell_at" (.cons .val (.var 0) (.cons .val (.bin .add (.var 1) (.bin .mod (.var 6) (.int 9))) .nil))) (.bin .pow (.int 10) (.int 18))) (.int 1)) (.bin .mul (.var 6) (.var 6))))
      (.cons (.set 5 (.bin .add (.bin .mul (.var 5) (.int 7919)) (.bin .mod (.bin .mod (.bin .mul (.var 7) (.ix (.var 2) (.bin .mod (.var 6) (.int 8)))) (.ix (.var 3) (.bin .mod (.var 6) (.int 8)))) (.int 7919))))
      .nil))
def B_law_big : Ss :=
    (.cons (.set 2 (.tup (.cons (.int 48271) (.cons (.int 69621) (.cons (.int 16807) (.cons (.int 39373) (.cons (.int 21401) (.cons (.int 60493) (.cons (.int 87721) (.cons (.int 31337) .nil))))))))))
      (.cons (.set 3 (.tup (.cons (.int 99991) (.cons (.int 99989) (.cons (.int 99971) (.cons (.int 99961) (.cons (.int 99929) (.cons (.int 99923) (.cons (.int 99907) (.cons (.int 99901) .nil))))))))))
      (.cons (.set 4 (.call "_law_cell_at" (.cons .val (.var 0) (.cons .val (.var 1) .nil))))
      (.cons (.ite (.cmp .ge (.var 4) (.bin .pow (.int 10) (.int 18)))
      (.cons (.ret (.var 4))
      .nil)
      .nil)
      (.cons (.set 5 (.int 0))
      (.cons (.forr (.nm 6) (.rng1 (.int 60)) B_law_big_1)
      (.cons (.ret (.var 5))
      .nil)))))))
-- _law_big: ps ['_law_script', '_law_at'], N ['_law_script', '_law_at', '_law_by', '_law_prime', '_law_cell', '_law_big_here', '_law_k', '_law_one']
abbrev B_law_low_1 : Ss :=
    (.cons (.par 2 3 (.var 3) (.bin .mod (.var 2) (.var 3)))
      .nil)
def B_law_low : Ss :=
    (.cons (.par 2 3 (.bl1 .abs (.var 0)) (.var 1))
      (.cons (.whl (.cmp .gt (.var 3) (.int 0)) B_law_low_1)
      (.cons (.ret (.tup (.cons (.bin .fdiv (.var 0) (.var 2)) (.cons (.bin .fdiv (.var 1) (.var 2)) .nil))))
      .nil)))
-- _law_low: ps ['_law_top', '_law_bottom'], N ['_law_top', '_law_bottom', '_law_one', '_law_other']
def B_law_digit : Ss :=
    (.cons (.set 2 (.bin .mod (.ix (.var 0) (.int 0)) (.var 1)))
      (.cons (.put (.nm 0) (.int 0) (.bin .fdiv (.ix (.var 0) (.int 0)) (.var 1)))
      (.cons (.ret (.var 2))
      .nil)))
-- _law_digit: ps ['_law_rest', '_law_many'], N ['_law_rest', '_law_many', '_law_digit_here']
def B_is_whole : Ss :=
    (.cons (.ret (.band (.isi (.var 0) .int) (.not (.isi (.var 0) .bool))))
      .nil)
-- is_whole: ps ['thing'], N ['thing']
def B_lowest : Ss :=
    (.cons (.set 2 (.call "common" (.cons .val (.bl1 .abs (.var 0)) (.cons .val (.var 1) .nil))))
      (.cons (.ret (.tup (.cons (.bin .fdiv (.var 0) (.var 2)) (.cons (.bin .fdiv (.var 1) (.var 2)) .nil))))
      .nil))
-- lowest: ps ['top', 'bottom'], N ['top', 'bottom', 'part']
def B_law_whole : Ss :=
    (.cons (.ret (.band (.isi (.var 0) .int) (.not (.isi (.var 0) .bool))))
      .nil)
-- _law_whole: ps ['_law_found'], N ['_law_found']
def B_law_is_fraction : Ss :=
    (.cons (.ite (.bor (.not (.isi (.var 0) .tuple)) (.bor (.cmp .ne (.bl1 .len (.var 0)) (.int 2)) (.bor (.not (.call "_law_whole" (.cons .val (.ix (.var 0) (.int 0)) .nil))) (.not (.call "_law_whole" (.cons .val (.ix (.var 0) (.int 1)) .nil))))))
      (.cons (.ret (.bl false))
      .nil)
      .nil)
      (.cons (.ret (.band (.cmp .gt (.ix (.var 0) (.int 1)) (.int 0)) (.cmp .eq (.var 0) (.call "_law_low" (.cons .val (.ix (.var 0) (.int 0)) (.cons .val (.ix (.var 0) (.int 1)) .nil))))))
      .nil))
-- _law_is_fraction: ps ['_law_found'], N ['_law_found']
abbrev iO (i : Int) : O := .fz (.int i)
abbrev scr (ns : List Int) : O := .fz (.list (ns.map .int))
def cellN (ns : List Int) (k : Int) : Int := ns.getD k.toNat 0
theorem atI_pos {α : Type} {xs : List α} {i : Int} (h : 0 ≤ i) : atI xs i = xs[i.toNat]? := by
  unfold atI ixN
  rw [if_pos h]
  split
  · rfl
  · rw [List.getElem?_eq_none (by omega)]
    rfl
/-- a for by an invariant -/
theorem fo_inv {F : Fns} {n : Nat} {tg : Tg} {b : Ss} (P : Nat → Env → Prop) : ∀ {ds : List PyData} {k : Nat} {e : Env}, P k e →
    (∀ i e d, ds[i]? = some d → P (k + i) e → ∃ e1 e2, setTg tg d e = some e1 ∧ (exs F n b e1 = .ok .nx e2 ∨ exs F n b e1 = .ok .ct e2) ∧ P (k + i + 1) e2) →
    ∃ e', fo F n tg b ds e = .ok .nx e' ∧ P (k + ds.length) e'
  | [], k, e, h0, _ => ⟨e, rfl, h0⟩
  | d :: ds, k, e, h0, hs => by
    obtain ⟨e1, e2, s1, s2, s3⟩ := hs 0 e d rfl h0
    obtain ⟨e', g1, g2⟩ := fo_inv P (ds := ds) (k := k + 1) (e := e2) s3 fun i e d hd hp => by
      obtain ⟨e1, e2, t1, t2, t3⟩ := hs (i + 1) e d hd (by rw [show k + (i + 1) = k + 1 + i by omega]; exact hp)
      exact ⟨e1, e2, t1, t2, by rw [show k + 1 + i + 1 = k + (i + 1) + 1 by omega]; exact t3⟩
    refine ⟨e', ?_, by rw [List.length_cons, show k + (ds.length + 1) = k + 1 + ds.length by omega]; exact g2⟩
    rw [fo_cons, s1]
    rcases s2 with s2 | s2
    · simp [s2, g1]
    · simp [s2, g1]
theorem rngD_get {lo : Int} {m i : Nat} {d : PyData} (h : (rngD lo m)[i]? = some d) : i < m ∧ d = .int (lo + i) := by
  unfold rngD at h
  rw [List.getElem?_map] at h
  obtain ⟨c, hc, e⟩ := Option.map_eq_some_iff.mp h
  have hi : i < m := by
    rcases Nat.lt_or_ge i m with z | z
    · exact z
    · rw [List.getElem?_eq_none (by simpa using z)] at hc; cases hc
  rw [List.getElem?_range hi] at hc
  cases hc
  exact ⟨hi, e.symm⟩
@[simp] theorem rngD_len {lo : Int} {m : Nat} : (rngD lo m).length = m := by simp [rngD]
section
variable {F : Fns} {n : Nat}
theorem cell_ok {ns : List Int} {k : Int} (h : 0 ≤ k) : runB F n 2 0 B_law_cell_at [scr ns, iO k] = .ok (iO (cellN ns k)) [some (scr ns), some (iO k)] := by
  unfold runB B_law_cell_at
  by_cases hl : k < ns.length
  · have hk : k.toNat < ns.length := by omega
    have g : (ns.map PyData.int)[k.toNat]? = some (.int (cellN ns k)) := by
      rw [List.getElem?_map, List.getElem?_eq_getElem hk]
      simp [cellN, List.getD, hk]
    simp [pl, qt, hl, atI_pos h, g, asSs, asS, tgS, wipeE]
  · have e : cellN ns k = 0 := by
      unfold cellN
      rw [List.getD_eq_getElem?_getD, List.getElem?_eq_none (by omega)]
      rfl
    simp [pl, qt, hl, e, asSs, asS, tgS, wipeE]
theorem wh_common : ∀ (m x y : Nat), y < m → wh F n (.cmp .ne (.var 1) (.int 0)) (.cons (.par 0 1 (.var 1) (.bin .mod (.var 0) (.var 1))) .nil) m [some (iO x), some (iO y)] = .ok .nx [some (iO (Nat.gcd x y)), some (iO 0)]
  | 0, x, y, h => by omega
  | m + 1, x, 0, h => by
    rw [wh_succ]
    simp
  | m + 1, x, y + 1, h => by
    rw [wh_succ]
    have h0 : ¬ (y : Int) + 1 = 0 := by omega
    have ih := wh_common m (y + 1) (x % (y + 1)) (by have := Nat.mod_lt x (show y + 1 > 0 by omega); omega)
    have g : Nat.gcd x (y + 1) = Nat.gcd (y + 1) (x % (y + 1)) := by rw [Nat.gcd_comm x, Nat.gcd_rec (y + 1) x, Nat.gcd_comm]
    rw [g, ← ih]
    simp [pl, qt, h0]
theorem common_ok {x y : Nat} (h : y < n) : runB F n 2 0 B_common [iO x, iO y] = .ok (iO (Nat.gcd x y)) [none, none] := by
  unfold runB B_common
  simp [wh_common _ _ _ h, asSs, asS, tgS, wipeE]
theorem wh_low {a b : O} : ∀ (m x y : Nat), y < m → wh F n (.cmp .gt (.var 3) (.int 0)) (.cons (.par 2 3 (.var 3) (.bin .mod (.var 2) (.var 3))) .nil) m [some a, some b, some (iO x), some (iO y)] = .ok .nx [some a, some b, some (iO (Nat.gcd x y)), some (iO 0)]
  | 0, x, y, h => by omega
  | m + 1, x, 0, h => by
    rw [wh_succ]
    simp
  | m + 1, x, y + 1, h => by
    rw [wh_succ]
    have h0 : (0 : Int) < (y : Int) + 1 := by omega
    have ih := wh_low (a := a) (b := b) m (y + 1) (x % (y + 1)) (by have := Nat.mod_lt x (show y + 1 > 0 by omega); omega)
    have g : Nat.gcd x (y + 1) = Nat.gcd (y + 1) (x % (y + 1)) := by rw [Nat.gcd_comm x, Nat.gcd_rec (y + 1) x, Nat.gcd_comm]
    rw [g, ← ih]
    simp [pl, qt, h0]
theorem gcd_bound {a b : Int} {m : Nat} (h : b.natAbs < 2 ^ m) (hb : 0 < b) : 0 < ((Int.gcd a b : Nat) : Int) ∧ ((Int.gcd a b : Nat) : Int).natAbs < 2 ^ m := by
  have h1 : 0 < Int.gcd a b := Int.gcd_pos_of_ne_zero_right a (by omega)
  have h2 : Int.gcd a b ≤ b.natAbs := Nat.le_of_dvd (by omega) (Int.gcd_dvd_natAbs_right a b)
  exact ⟨by omega, by omega⟩
abbrev tup2 (a b : Int) : PyData := .tuple [.int a, .int b]
/-- a fraction in lowest terms -/
abbrev frO (a b : Int) : O := .fz (tup2 (a / Int.gcd a b) (b / Int.gcd a b))
theorem low_ok {a b : Int} (hb : 0 < b) (hs : b.natAbs < 2 ^ 8999) (hn : b.natAbs < n) : runB F n 2 2 B_law_low [iO a, iO b] = .ok (frO a b) [some (iO a), some (iO b)] := by
  unfold runB B_law_low
  have w := wh_low (F := F) (n := n) (a := iO a) (b := iO b) n a.natAbs b.natAbs hn
  have e1 : (if a < 0 then -a else a) = (a.natAbs : Int) := by split <;> omega
  have e2 : b = (b.natAbs : Int) := by omega
  have g : Nat.gcd a.natAbs b.natAbs = Int.gcd a b := rfl
  have gb := gcd_bound (a := a) hs hb
  have cd := cdivB_lit gb.1 gb.2
  rw [g, ← e2] at w
  simp [pl, qt, e1, w, cd, asSs, asS, tgS, wipeE, mkTup, strRoom, sizeLine]
theorem digit_ok {r m : Int} (hm : 0 < m) (hs : m.natAbs < 2 ^ 8999) : runB F n 2 1 B_law_digit [.lst [iO r], iO m] = .ok (iO (r % m)) [some (.lst [iO (r / m)]), some (iO m)] := by
  unfold runB B_law_digit
  have cd := cdivB_lit hm hs
  simp [pl, qt, hm, cd, asSs, asS, tgS, wipeE, atI, ixN, getP]
theorem tab8 {a0 a1 a2 a3 a4 a5 a6 a7 : Int} {i : Int} {m : Nat} (h : ∀ x ∈ [a0, a1, a2, a3, a4, a5, a6, a7], x.natAbs < 2 ^ m) (h0 : ∀ x ∈ [a0, a1, a2, a3, a4, a5, a6, a7], 0 < x) : ∃ p, atI [PyData.int a0, .int a1, .int a2, .int a3, .int a4, .int a5, .int a6, .int a7] (i % 8) = some (.int p) ∧ 0 < p ∧ p.natAbs < 2 ^ m := by
  have e : i % 8 = 0 ∨ i % 8 = 1 ∨ i % 8 = 2 ∨ i % 8 = 3 ∨ i % 8 = 4 ∨ i % 8 = 5 ∨ i % 8 = 6 ∨ i % 8 = 7 := by omega
  rcases e with e | e | e | e | e | e | e | e <;> rw [e]
  · exact ⟨a0, rfl, h0 _ (by simp), h _ (by simp)⟩
  · exact ⟨a1, rfl, h0 _ (by simp), h _ (by simp)⟩
  · exact ⟨a2, rfl, h0 _ (by simp), h _ (by simp)⟩
  · exact ⟨a3, rfl, h0 _ (by simp), h _ (by simp)⟩
  · exact ⟨a4, rfl, h0 _ (by simp), h _ (by simp)⟩
  · exact ⟨a5, rfl, h0 _ (by simp), h _ (by simp)⟩
  · exact ⟨a6, rfl, h0 _ (by simp), h _ (by simp)⟩
  · exact ⟨a7, rfl, h0 _ (by simp), h _ (by simp)⟩
def CellF (F : Fns) : Prop := ∀ ns k, 0 ≤ k → F "_law_cell_at" [scr ns, iO k] = .ok (iO (cellN ns k)) [some (scr ns), some (iO k)]
abbrev byT : List PyData := [.int 48271, .int 69621, .int 16807, .int 39373, .int 21401, .int 60493, .int 87721, .int 31337]
abbrev prT : List PyData := [.int 99991, .int 99989, .int 99971, .int 99961, .int 99929, .int 99923, .int 99907, .int 99901]
theorem big_turn (hc : CellF F) {ns : List Int} {at0 big : Int} {i : Nat} {x6 x7 : Option O} (h : 0 ≤ at0) (hi : i < 60) (q1 : 0 ≤ big) {m : Nat} (hm : m ≤ 100000) (q2 : big.natAbs < 2 ^ m) : ∃ y one, 0 ≤ y ∧ y < 7919 ∧
    exs F n B_law_big_1 [some (scr ns), some (iO at0), some (.fz (.tuple byT)), some (.fz (.tuple prT)), some (iO (cellN ns at0)), some (iO big), some (iO i), x7] = .ok .nx [some (scr ns), some (iO at0), some (.fz (.tuple byT)), some (.fz (.tuple prT)), some (iO (cellN ns at0)), some (iO (big * 7919 + y)), some (iO i), some (iO one)] := by
  obtain ⟨p1, t1, t2, t3⟩ := tab8 (a0 := 48271) (a1 := 69621) (a2 := 16807) (a3 := 39373) (a4 := 21401) (a5 := 60493) (a6 := 87721) (a7 := 31337) (i := (i : Int)) (m := 17) (by decide) (by decide)
  obtain ⟨p2, t4, t5, t6⟩ := tab8 (a0 := 99991) (a1 := 99989) (a2 := 99971) (a3 := 99961) (a4 := 99929) (a5 := 99923) (a6 := 99907) (a7 := 99901) (i := (i : Int)) (m := 17) (by decide) (by decide)
  have hz : 0 ≤ at0 + (i : Int) % 9 := by omega
  have c1 := hc ns _ hz
  have m1 : cmulB (i : Int) (i : Int) = true := cmulB_of (a := 6) (b := 6) (by omega) (by omega) (by decide)
  have sq : (i : Int) * i ≤ 3600 := by
    have := Int.mul_le_mul (show (i : Int) ≤ 60 by omega) (show (i : Int) ≤ 60 by omega) (by omega) (by omega)
    omega
  have sq0 : 0 ≤ (i : Int) * i := Int.mul_nonneg (by omega) (by omega)
  have hone : (cellN ns (at0 + (i : Int) % 9) % 1000000000000000000 + 1 + (i : Int) * i).natAbs < 2 ^ 61 := by omega
  have m2 : cmulB (cellN ns (at0 + (i : Int) % 9) % 1000000000000000000 + 1 + (i : Int) * i) p1 = true := cmulB_of hone t3 (by decide)
  have m3 : cmulB big 7919 = true := cmulB_of q2 (show (7919 : Int).natAbs < 2 ^ 13 by decide) (by omega)
  generalize hw : (cellN ns (at0 + (i : Int) % 9) % 1000000000000000000 + 1 + (i : Int) * i) = one at m2 hone
  refine ⟨one * p1 % p2 % 7919, one, Int.emod_nonneg _ (by decide), Int.emod_lt_of_pos _ (by decide), ?_⟩
  simp [pl, qt, c1, t1, t4, m1, m2, m3, hw, t5, mkTup, strRoom, sizeLine, cpowB, hasBor, backAr, Ar.o]
theorem pow13 {i : Nat} {big y : Int} (h0 : 0 ≤ big) (q : big.natAbs < 2 ^ (13 * i)) (a1 : 0 ≤ y) (a2 : y < 7919) : (big * 7919 + y).natAbs < 2 ^ (13 * (i + 1)) := by
  have e1 : 2 ^ (13 * (i + 1)) = 8192 * 2 ^ (13 * i) := by
    rw [show 13 * (i + 1) = 13 * i + 13 by omega, Nat.pow_add]
    omega
  rw [e1]
  generalize 2 ^ (13 * i) = z at q ⊢
  omega
theorem big_loop (hc : CellF F) {ns : List Int} {at0 : Int} (h : 0 ≤ at0) : ∃ big x6 x7, fo F n (.nm 6) B_law_big_1 (rngD 0 60) [some (scr ns), some (iO at0), some (.fz (.tuple byT)), some (.fz (.tuple prT)), some (iO (cellN ns at0)), some (iO 0), none, none] =
    .ok .nx [some (scr ns), some (iO at0), some (.fz (.tuple byT)), some (.fz (.tuple prT)), some (iO (cellN ns at0)), some (iO big), x6, x7] ∧ 0 ≤ big ∧ big.natAbs < 2 ^ (13 * 60) := by
  obtain ⟨e', g1, big, x6, x7, g2, g3, g4⟩ := fo_inv (F := F) (n := n) (tg := .nm 6) (b := B_law_big_1) (ds := rngD 0 60) (k := 0) (fun i e => ∃ big x6 x7, e = [some (scr ns), some (iO at0), some (.fz (.tuple byT)), some (.fz (.tuple prT)), some (iO (cellN ns at0)), some (iO big), x6, x7] ∧ 0 ≤ big ∧ big.natAbs < 2 ^ (13 * i))
    ⟨0, none, none, rfl, Int.le_refl _, Nat.one_pos⟩ (fun i e d hd hp => by
      obtain ⟨hi, rfl⟩ := rngD_get hd
      obtain ⟨big, x6, x7, rfl, q1, q2⟩ := hp
      rw [Nat.zero_add] at q2 ⊢
      obtain ⟨y, one, a1, a2, he⟩ := big_turn (n := n) (x6 := x6) (x7 := x7) hc h hi q1 (m := 13 * i) (by omega) q2
      rw [Int.zero_add]
      exact ⟨_, _, rfl, .inl he, big * 7919 + y, some (iO i), some (iO one), rfl, by omega, pow13 q1 q2 a1 a2⟩)
  rw [rngD_len, Nat.zero_add] at g4
  subst g2
  exact ⟨big, x6, x7, g1, g3, g4⟩
theorem big_ok (hc : CellF F) {ns : List Int} {at0 : Int} (h : 0 ≤ at0) : ∃ v, runB F n 2 6 B_law_big [scr ns, iO at0] = .ok (iO v) [some (scr ns), some (iO at0)] ∧ 0 ≤ v ∧ (v = cellN ns at0 ∨ v.natAbs < 2 ^ (13 * 60)) := by
  unfold runB B_law_big
  by_cases hb : (1000000000000000000 : Int) ≤ cellN ns at0
  · refine ⟨cellN ns at0, ?_, by omega, .inl rfl⟩
    simp [pl, qt, hc _ _ h, hb, asSs, asS, tgS, wipeE, mkTup, strRoom, sizeLine, cpowB, hasBor, backAr, Ar.o]
  · obtain ⟨big, x6, x7, g1, g3, g4⟩ := big_loop (n := n) hc (ns := ns) h
    refine ⟨big, ?_, g3, .inr g4⟩
    simp [pl, qt, hc _ _ h, hb, asSs, asS, tgS, wipeE, mkTup, strRoom, sizeLine, cpowB, hasBor, backAr, Ar.o, rngOk, g1]
theorem lowest_ok (hc : ∀ x y : Nat, y < n → F "common" [iO x, iO y] = .ok (iO (Nat.gcd x y)) [none, none]) {a b : Int} (hb : 0 < b) (hs : b.natAbs < 2 ^ 8999) (hn : b.natAbs < n) : runB F n 2 1 B_lowest [iO a, iO b] = .ok (frO a b) [some (iO a), some (iO b)] := by
  unfold runB B_lowest
  have w := hc a.natAbs b.natAbs hn
  have e1 : (if a < 0 then -a else a) = (a.natAbs : Int) := by split <;> omega
  have e2 : b = (b.natAbs : Int) := by omega
  have g : Nat.gcd a.natAbs b.natAbs = Int.gcd a b := rfl
  have gb := gcd_bound (a := a) hs hb
  have cd := cdivB_lit gb.1 gb.2
  rw [g, ← e2] at w
  simp [pl, qt, hasBor, backAr, Ar.o, e1, w, cd, asSs, asS, tgS, wipeE, mkTup, strRoom, sizeLine]
def wholeB : PyData → Bool
  | .int _ => true
  | _ => false
theorem whole_ok {d : PyData} (h : ∀ r, d ≠ .dict r) : runB F n 1 0 B_law_whole [.fz d] = .ok (.fz (.bool (wholeB d))) [some (.fz d)] := by
  cases d <;> first | (exact absurd rfl (h _)) | simp [runB, B_law_whole, asSs, asS, tgS, wipeE, isiO, isiD, wholeB]
/-- in lowest terms -/
def Low (p q : Int) : Prop := 0 < q ∧ Int.gcd p q = 1
theorem low_low {a b : Int} (hb : 0 < b) : Low (a / Int.gcd a b) (b / Int.gcd a b) :=
  have gp : 0 < Int.gcd a b := Int.gcd_pos_of_ne_zero_right a (by omega)
  ⟨Int.ediv_pos_of_pos_of_dvd hb (by omega) (Int.gcd_dvd_right a b), Int.gcd_ediv_gcd_ediv_gcd gp⟩
theorem low_small {a b : Int} : (b / Int.gcd a b).natAbs ≤ b.natAbs ∧ (a / Int.gcd a b).natAbs ≤ a.natAbs := by
  rw [Int.natAbs_ediv_of_dvd (Int.gcd_dvd_right a b), Int.natAbs_ediv_of_dvd (Int.gcd_dvd_left a b)]
  exact ⟨Nat.div_le_self _ _, Nat.div_le_self _ _⟩
theorem low_self {p q : Int} (h : Low p q) : p / Int.gcd p q = p ∧ q / Int.gcd p q = q := by
  rw [h.2]
  simp
theorem low_cross {a b : Int} : (a / Int.gcd a b) * b = a * (b / Int.gcd a b) := by
  obtain ⟨c, hc⟩ := Int.gcd_dvd_left a b
  obtain ⟨d, hd⟩ := Int.gcd_dvd_right a b
  by_cases hg : (Int.gcd a b : Int) = 0
  · rw [hg]
    simp at hg
    simp [hg.1, hg.2]
  · generalize (Int.gcd a b : Int) = g at hc hd hg ⊢
    subst hc hd
    rw [Int.mul_ediv_cancel_left _ hg, Int.mul_ediv_cancel_left _ hg, Int.mul_left_comm, ← Int.mul_assoc]
theorem low_dvd {p q r s : Int} (h : Int.gcd p q = 1) (e : p * s = r * q) : q ∣ s := by
  have h1 : Nat.Coprime q.natAbs p.natAbs := by
    have : Nat.gcd p.natAbs q.natAbs = 1 := h
    rw [Nat.gcd_comm] at this
    exact this
  have h2 : q.natAbs ∣ p.natAbs * s.natAbs := by
    rw [← Int.natAbs_mul, e, Int.natAbs_mul]
    exact Nat.dvd_mul_left _ _
  exact Int.natAbs_dvd_natAbs.mp (h1.dvd_of_dvd_mul_left h2)
/-- a number's lowest terms are unlike no others -/
theorem low_uni {p q r s : Int} (h : Low p q) (k : Low r s) (e : p * s = r * q) : p = r ∧ q = s := by
  have e1 := low_dvd h.2 e
  have e2 := low_dvd k.2 e.symm
  have e3 : q = s := Int.dvd_antisymm (by have := h.1; omega) (by have := k.1; omega) e1 e2
  subst e3
  exact ⟨Int.eq_of_mul_eq_mul_right (by have := h.1; omega) e, rfl⟩
/-- .. so that two pairs have the same just where they are as big -/
theorem low_eq {a b c d : Int} (hb : 0 < b) (hd : 0 < d) (e : a * d = c * b) : a / Int.gcd a b = c / Int.gcd c d ∧ b / Int.gcd a b = d / Int.gcd c d := by
  refine low_uni (low_low hb) (low_low hd) ?_
  have h1 := low_cross (a := a) (b := b)
  have h2 := low_cross (a := c) (b := d)
  generalize a / (Int.gcd a b : Int) = p at h1 ⊢
  generalize b / (Int.gcd a b : Int) = q at h1 ⊢
  generalize c / (Int.gcd c d : Int) = r at h2 ⊢
  generalize d / (Int.gcd c d : Int) = s at h2 ⊢
  have hbd : b * d ≠ 0 := Int.mul_ne_zero (by omega) (by omega)
  refine Int.eq_of_mul_eq_mul_right hbd ?_
  calc p * s * (b * d) = (p * b) * (s * d) := by ac_rfl
    _ = (a * q) * (s * d) := by rw [h1]
    _ = (a * d) * (q * s) := by ac_rfl
    _ = (c * b) * (q * s) := by rw [e]
    _ = (c * s) * (q * b) := by ac_rfl
    _ = (r * d) * (q * b) := by rw [h2]
    _ = r * q * (b * d) := by ac_rfl
theorem frO_eq {a b c d : Int} (hb : 0 < b) (hd : 0 < d) (e : a * d = c * b) : frO a b = frO c d := by
  obtain ⟨e1, e2⟩ := low_eq hb hd e
  show O.fz (tup2 _ _) = O.fz (tup2 _ _)
  rw [e1, e2]
theorem frO_low {p q : Int} (h : Low p q) : frO p q = .fz (tup2 p q) := by
  show O.fz (tup2 _ _) = _
  rw [(low_self h).1, (low_self h).2]
theorem isfrac_ok (hw : ∀ d : PyData, (∀ r, d ≠ .dict r) → F "_law_whole" [.fz d] = .ok (.fz (.bool (wholeB d))) [some (.fz d)]) (hl : ∀ a b : Int, 0 < b → b.natAbs < 2 ^ 8999 → b.natAbs < n → F "_law_low" [iO a, iO b] = .ok (frO a b) [some (iO a), some (iO b)])
    {p q : Int} (h : Low p q) (hs : q.natAbs < 2 ^ 8999) (hn : q.natAbs < n) : runB F n 1 0 B_law_is_fraction [.fz (tup2 p q)] = .ok (.fz (.bool true)) [some (.fz (tup2 p q))] := by
  unfold runB B_law_is_fraction
  have w1 := hw (.int p) (fun r e => by cases e)
  have w2 := hw (.int q) (fun r e => by cases e)
  have l := hl p q h.1 hs hn
  rw [frO_low h] at l
  have a0 : atI [PyData.int p, .int q] 0 = some (.int p) := rfl
  have a1 : atI [PyData.int p, .int q] 1 = some (.int q) := rfl
  simp [pl, qt, hasBor, backAr, Ar.o, w1, w2, l, a0, a1, isiO, isiD, wholeB, h.1, asSs, asS, tgS, wipeE]
end
end Rim
namespace Dt

/-! ### finite sums -/
def sm : Nat → (Nat → Int) → Int
  | 0, _ => 0
  | n + 1, f => sm n f + f n
theorem sm_congr : ∀ {n : Nat} {f g : Nat → Int}, (∀ i, i < n → f i = g i) → sm n f = sm n g
  | 0, _, _, _ => rfl
  | n + 1, f, g, h => by
    unfold sm
    rw [sm_congr fun i hi => h i (by omega), h n (by omega)]
theorem sm_lin (a b : Int) : ∀ (n : Nat) (f g : Nat → Int), sm n (fun i => a * f i + b * g i) = a * sm n f + b * sm n g
  | 0, _, _ => by simp [sm]
  | n + 1, f, g => by
    unfold sm
    rw [sm_lin a b n f g]
    grind
theorem sm_mul (a : Int) : ∀ (n : Nat) (f : Nat → Int), sm n (fun i => a * f i) = a * sm n f
  | 0, _ => by simp [sm]
  | n + 1, f => by
    unfold sm
    rw [sm_mul a n f]
    grind
theorem sm_zero : ∀ {n : Nat} {f : Nat → Int}, (∀ i, i < n → f i = 0) → sm n f = 0
  | 0, _, _ => rfl
  | n + 1, f, h => by
    unfold sm
    rw [sm_zero fun i hi => h i (by omega), h n (by omega)]
    rfl
theorem sm_first : ∀ (n : Nat) (f : Nat → Int), sm (n + 1) f = f 0 + sm n fun i => f (i + 1)
  | 0, f => by simp [sm]
  | n + 1, f => by
    rw [sm, sm_first n f, sm]
    omega
theorem sm_add (n : Nat) (f g : Nat → Int) : sm n (fun i => f i + g i) = sm n f + sm n g := by
  have := sm_lin 1 1 n f g
  simpa using this
theorem sm_swap : ∀ (n m : Nat) (f : Nat → Nat → Int), sm n (fun i => sm m fun j => f i j) = sm m fun j => sm n fun i => f i j
  | 0, m, f => (sm_zero fun _ _ => rfl).symm
  | n + 1, m, f => by
    rw [sm, sm_swap n m f, ← sm_add]
    rfl
theorem sm_two : ∀ {n : Nat} {f : Nat → Int} {t : Nat}, t + 1 < n → f t + f (t + 1) = 0 → (∀ i, i < n → i ≠ t → i ≠ t + 1 → f i = 0) → sm n f = 0
  | n + 1, f, t, ht, h, h0 => by
    unfold sm
    by_cases e : t + 1 = n
    · subst e
      unfold sm
      rw [sm_zero fun i hi => h0 i (by omega) (by omega) (by omega)]
      omega
    · rw [sm_two (t := t) (by omega) h fun i hi => h0 i (by omega), h0 n (by omega) (by omega) (by omega)]
      rfl

/-! ### determinants -/
abbrev Mx := Nat → Nat → Int
def skip (i r : Nat) : Nat := if r < i then r else r + 1
def un (i t : Nat) : Nat := if t < i then t else t - 1
def sg (i : Nat) : Int := if i % 2 = 0 then 1 else -1
theorem sg_succ (i : Nat) : sg (i + 1) = - sg i := by
  unfold sg
  rcases Nat.mod_two_eq_zero_or_one i with h | h
  · rw [if_neg (by omega), if_pos h]
  · rw [if_pos (by omega), if_neg (by omega)]
    rfl
/-- by the first column -/
def C : Nat → Mx → Int
  | 0, _ => 1
  | n + 1, A => sm (n + 1) fun i => sg i * (A i 0 * C n fun r c => A (skip i r) (c + 1))
/-- by the first row -/
def R : Nat → Mx → Int
  | 0, _ => 1
  | n + 1, A => sm (n + 1) fun k => sg k * (A 0 k * R n fun r c => A (r + 1) (skip k c))
theorem skip_lt {i r n : Nat} (h : r < n) : skip i r < n + 1 := by
  unfold skip
  split <;> omega
theorem C_congr : ∀ {n : Nat} {A B : Mx}, (∀ r c, r < n → c < n → A r c = B r c) → C n A = C n B
  | 0, _, _, _ => rfl
  | n + 1, A, B, h => by
    unfold C
    refine sm_congr fun i hi => ?_
    rw [h i 0 hi (by omega), C_congr fun r c hr hc => h _ _ (skip_lt hr) (by omega)]
theorem R_congr : ∀ {n : Nat} {A B : Mx}, (∀ r c, r < n → c < n → A r c = B r c) → R n A = R n B
  | 0, _, _, _ => rfl
  | n + 1, A, B, h => by
    unfold R
    refine sm_congr fun i hi => ?_
    rw [h 0 i (by omega) hi, R_congr fun r c hr hc => h _ _ (by omega) (skip_lt hc)]
theorem skip_zero (c : Nat) : skip 0 c = c + 1 := if_neg (by omega)
theorem skip_s0 (i : Nat) : skip (i + 1) 0 = 0 := if_pos (by omega)
theorem skip_ss (i r : Nat) : skip (i + 1) (r + 1) = skip i r + 1 := by
  unfold skip
  by_cases h : r < i
  · rw [if_pos h, if_pos (by omega)]
  · rw [if_neg h, if_neg (by omega)]
theorem R_eq_C2 : ∀ n : Nat, (∀ A, R n A = C n A) ∧ ∀ A, R (n + 1) A = C (n + 1) A
  | 0 => ⟨fun _ => rfl, fun A => rfl⟩
  | n + 1 => by
    obtain ⟨h1, h2⟩ := R_eq_C2 n
    refine ⟨h2, fun A => ?_⟩
    have l1 : R (n + 2) A = _ := (R.eq_2 A (n + 1)).trans (sm_first (n + 1) _)
    have l2 : C (n + 2) A = _ := (C.eq_2 A (n + 1)).trans (sm_first (n + 1) _)
    rw [l1, l2]
    congr 1
    · rw [h2]
      have e0 : (fun r c => A (r + 1) (skip 0 c)) = fun r c => A (skip 0 r) (c + 1) := by
        funext r c
        rw [skip_zero, skip_zero]
      rw [e0]
    · have e1 : ∀ k, sg (k + 1) * (A 0 (k + 1) * R (n + 1) fun r c => A (r + 1) (skip (k + 1) c)) = sm (n + 1) fun i => -(sg k * sg i * (A 0 (k + 1) * A (i + 1) 0) * C n fun r c => A (skip i r + 1) (skip k c + 1)) := fun k => by
        rw [h2, C, ← sm_mul, ← sm_mul]
        refine sm_congr fun i _ => ?_
        rw [skip_s0, sg_succ]
        have : (fun r c => A (skip i r + 1) (skip (k + 1) (c + 1))) = fun r c => A (skip i r + 1) (skip k c + 1) := by
          funext r c
          rw [skip_ss]
        rw [this]
        grind
      have e2 : ∀ i, sg (i + 1) * (A (i + 1) 0 * C (n + 1) fun r c => A (skip (i + 1) r) (c + 1)) = sm (n + 1) fun k => -(sg k * sg i * (A 0 (k + 1) * A (i + 1) 0) * C n fun r c => A (skip i r + 1) (skip k c + 1)) := fun i => by
        rw [← h2, R, ← sm_mul, ← sm_mul]
        refine sm_congr fun k _ => ?_
        rw [skip_s0, sg_succ, h1]
        have : (fun r c => A (skip (i + 1) (r + 1)) (skip k c + 1)) = fun r c => A (skip i r + 1) (skip k c + 1) := by
          funext r c
          rw [skip_ss]
        rw [this]
        grind
      simp only [e1, e2]
      exact sm_swap _ _ _
theorem R_eq_C (n : Nat) (A : Mx) : R n A = C n A := (R_eq_C2 n).1 A
/-- turned -/
theorem C_turn : ∀ (n : Nat) (A : Mx), C n (fun r c => A c r) = R n A
  | 0, _ => rfl
  | n + 1, A => by
    rw [C, R]
    refine sm_congr fun i _ => ?_
    rw [← C_turn n]
theorem C_turned (n : Nat) (A : Mx) : C n (fun r c => A c r) = C n A := by rw [C_turn, R_eq_C]

/-! ### rows -/
def upd (A : Mx) (t : Nat) (w : Nat → Int) : Mx := fun r c => if r = t then w c else A r c
theorem upd_at {A : Mx} {t : Nat} {w : Nat → Int} {c : Nat} : upd A t w t c = w c := if_pos rfl
theorem upd_off {A : Mx} {t r : Nat} {w : Nat → Int} {c : Nat} (h : r ≠ t) : upd A t w r c = A r c := if_neg h
theorem skip_ne (i r : Nat) : skip i r ≠ i := by
  unfold skip
  split <;> omega
theorem skip_un {i t r : Nat} (h : i ≠ t) : skip i r = t ↔ r = un i t := by
  unfold skip un
  split <;> split <;> omega
theorem minor_same {A : Mx} {t : Nat} {w : Nat → Int} : (fun r c => upd A t w (skip t r) (c + 1)) = fun r c => A (skip t r) (c + 1) := by
  funext r c
  exact upd_off (skip_ne t r)
theorem minor_upd {A : Mx} {i t : Nat} {w : Nat → Int} (h : i ≠ t) : (fun r c => upd A t w (skip i r) (c + 1)) = upd (fun r c => A (skip i r) (c + 1)) (un i t) fun c => w (c + 1) := by
  funext r c
  unfold upd
  by_cases e : skip i r = t
  · rw [if_pos e, if_pos ((skip_un h).mp e)]
  · rw [if_neg e, if_neg fun z => e ((skip_un h).mpr z)]
theorem un_lt {i t n : Nat} (h : i ≠ t) (hi : i < n + 1) (ht : t < n + 1) : un i t < n := by
  unfold un
  split <;> omega
theorem C_lin : ∀ {n : Nat} {A : Mx} {t : Nat} {u v w : Nat → Int} {a b : Int}, t < n → (∀ c, c < n → w c = a * u c + b * v c) → C n (upd A t w) = a * C n (upd A t u) + b * C n (upd A t v)
  | n + 1, A, t, u, v, w, a, b, ht, h => by
    rw [C, C, C, ← sm_lin]
    refine sm_congr fun i hi => ?_
    by_cases e : i = t
    · subst e
      rw [minor_same, minor_same, minor_same, upd_at, upd_at, upd_at, h 0 (by omega)]
      grind
    · rw [minor_upd e, minor_upd e, minor_upd e, upd_off e, upd_off e, upd_off e, C_lin (un_lt e hi ht) fun c hc => h (c + 1) (by omega)]
      grind
theorem C_adj : ∀ {n : Nat} {A : Mx} {t : Nat}, t + 1 < n → (∀ c, c < n → A t c = A (t + 1) c) → C n A = 0
  | n + 1, A, t, ht, h => by
    rw [C]
    refine sm_two (t := t) ht ?_ fun i hi h1 h2 => ?_
    · rw [sg_succ, ← h 0 (by omega)]
      have : C n (fun r c => A (skip t r) (c + 1)) = C n fun r c => A (skip (t + 1) r) (c + 1) := C_congr fun r c hr hc => by
        by_cases e : r = t
        · subst e
          have e1 : skip r r = r + 1 := if_neg (by omega)
          have e2 : skip (r + 1) r = r := if_pos (by omega)
          rw [e1, e2, h _ (by omega)]
        · have : skip t r = skip (t + 1) r := by
            unfold skip
            split <;> split <;> omega
          rw [this]
      rw [this]
      grind
    · have e1 : skip i (un i t) = t := (skip_un h1).mpr rfl
      have e2 : skip i (un i t + 1) = t + 1 := (skip_un h2).mpr (by
        unfold un
        split <;> split <;> omega)
      rw [C_adj (n := n) (t := un i t) (by
        have := un_lt h2 hi ht
        unfold un at this ⊢
        split <;> split at this <;> omega) fun c hc => by rw [e1, e2]; exact h _ (by omega)]
      grind
theorem upd_self {A : Mx} {t : Nat} : upd A t (A t) = A := by
  funext r c
  unfold upd
  split
  · rename_i e
    rw [e]
  · rfl
theorem upd_comm {A : Mx} {s t : Nat} {u v : Nat → Int} (h : s ≠ t) : upd (upd A s u) t v = upd (upd A t v) s u := by
  funext r c
  unfold upd
  by_cases h1 : r = t
  · rw [if_pos h1, if_neg (fun z => h (z.symm.trans h1)), if_pos h1]
  · rw [if_neg h1, if_neg h1]
theorem swap1 {n : Nat} {A : Mx} {s t : Nat} {u v : Nat → Int} (hs : s < n) (ht : t < n) (hst : s ≠ t) (zero : ∀ w, C n (upd (upd A s w) t w) = 0) : C n (upd (upd A s v) t u) = - C n (upd (upd A s u) t v) := by
  have z := zero fun c => u c + v c
  have ex : ∀ w, C n (upd (upd A s fun c => u c + v c) t w) = C n (upd (upd A s u) t w) + C n (upd (upd A s v) t w) := fun w => by
    rw [upd_comm hst, upd_comm hst, upd_comm hst, C_lin (a := 1) (b := 1) (u := u) (v := v) hs fun c _ => by omega]
    omega
  rw [C_lin (a := 1) (b := 1) (u := u) (v := v) ht fun c _ => by omega, ex, ex, zero, zero] at z
  omega
theorem C_eq : ∀ (d : Nat) {n : Nat} {A : Mx} {s : Nat}, s + d + 1 < n → (∀ c, A s c = A (s + d + 1) c) → C n A = 0
  | 0, n, A, s, ht, h => C_adj ht fun c _ => h c
  | d + 1, n, A, s, ht, h => by
    have e : A = upd (upd A (s + d + 1) (A (s + d + 1))) (s + (d + 1) + 1) (A (s + (d + 1) + 1)) := by
      rw [upd_self, upd_self]
    have hne : s + d + 1 ≠ s + (d + 1) + 1 := by omega
    have z := swap1 (n := n) (A := A) (s := s + d + 1) (t := s + (d + 1) + 1) (u := A (s + (d + 1) + 1)) (v := A (s + d + 1)) (by omega) (by omega) hne fun w => C_adj (t := s + d + 1) (by omega) fun c _ => by
      rw [upd_off (by omega), upd_at, show s + d + 1 + 1 = s + (d + 1) + 1 by omega, upd_at]
    rw [e, z, C_eq d (s := s) (by omega) fun c => by rw [upd_off (by omega), upd_off (by omega), upd_off (by omega), upd_at]; exact h c]
    rfl
theorem C_same {n : Nat} {A : Mx} {s t : Nat} (hst : s < t) (ht : t < n) (h : ∀ c, A s c = A t c) : C n A = 0 :=
  C_eq (t - s - 1) (s := s) (by omega) fun c => by rw [show s + (t - s - 1) + 1 = t by omega]; exact h c
/-- two rows exchanged -/
def xch (A : Mx) (s t : Nat) : Mx := upd (upd A s (A t)) t (A s)
theorem C_xch {n : Nat} {A : Mx} {s t : Nat} (hst : s < t) (ht : t < n) : C n (xch A s t) = - C n A := by
  have z := swap1 (n := n) (A := A) (s := s) (t := t) (u := A s) (v := A t) (by omega) ht (by omega) fun w => C_same hst ht fun c => by
    rw [upd_at, upd_off (by omega), upd_at]
  unfold xch
  rw [z, upd_self, upd_self]
theorem C_comb {n : Nat} {A : Mx} {s : Nat} (hs : s < n) : ∀ {k : Nat} {c w : Nat → Int}, k ≤ s → (∀ j, j < n → w j = sm k fun t => c t * A t j) → C n (upd A s w) = 0
  | 0, c, w, _, h => by
    rw [C_lin (a := 0) (b := 0) (u := w) (v := w) hs fun j hj => by rw [h j hj]; simp [sm]]
    omega
  | k + 1, c, w, hk, h => by
    rw [C_lin (a := 1) (b := c k) (u := fun j => sm k fun t => c t * A t j) (v := A k) hs fun j hj => by rw [h j hj, sm]; omega,
      C_comb hs (k := k) (c := c) (by omega) fun j _ => rfl, C_same (s := k) (t := s) (by omega) hs fun j => by rw [upd_off (by omega), upd_at]]
    omega
/-- a row times lam, with what stands above it -/
theorem C_op {n : Nat} {A : Mx} {s k : Nat} {m lam : Int} {c v : Nat → Int} (hs : s < n) (hk : k ≤ s) (h : ∀ j, j < n → m * v j = lam * A s j + sm k fun t => c t * A t j) : m * C n (upd A s v) = lam * C n A := by
  have e1 : C n (upd A s fun j => m * v j) = m * C n (upd A s v) := by
    rw [C_lin (a := m) (b := 0) (u := v) (v := v) hs fun j _ => by omega]
    omega
  rw [← e1, C_lin (a := lam) (b := 1) (u := A s) (v := fun j => sm k fun t => c t * A t j) hs fun j hj => by rw [h j hj]; omega,
    C_comb hs hk (c := c) fun j _ => rfl, upd_self]
  omega
/-- the last row is nought but at its end -/
theorem C_last : ∀ {n : Nat} {A : Mx}, (∀ c, c < n → A n c = 0) → C (n + 1) A = A n n * C n A
  | 0, A, _ => by simp [C, sm, sg]
  | n + 1, A, h => by
    rw [C, sm, h 0 (by omega)]
    rw [show C (n + 1) A = _ from C.eq_2 A n, ← sm_mul]
    rw [show sg (n + 1) * (0 * C (n + 1) fun r c => A (skip (n + 1) r) (c + 1)) = 0 by grind, Int.add_zero]
    refine sm_congr fun i hi => ?_
    have e1 : skip i n = n + 1 := if_neg (by omega)
    rw [C_last (n := n) (A := fun r c => A (skip i r) (c + 1)) fun c hc => by
      show A (skip i n) (c + 1) = 0
      rw [e1]
      exact h _ (by omega)]
    show _ * (_ * (A (skip i n) (n + 1) * _)) = _
    rw [e1]
    grind
theorem C_zero : ∀ {n : Nat} {A : Mx} {k : Nat}, k < n → (∀ a, k ≤ a → a < n → ∀ c, c ≤ k → A a c = 0) → C n A = 0
  | n + 1, A, 0, hk, h => by
    rw [C]
    refine sm_zero fun i hi => ?_
    rw [h i (by omega) hi 0 (by omega)]
    grind
  | n + 1, A, k + 1, hk, h => by
    rw [C]
    refine sm_zero fun i hi => ?_
    by_cases e : k + 1 ≤ i
    · rw [h i e hi 0 (by omega)]
      grind
    · rw [C_zero (n := n) (k := k) (by omega) fun a ha hn c hc => by
        have e1 : skip i a = a + 1 := if_neg (by omega)
        rw [e1]
        exact h _ (by omega) (by omega) _ (by omega)]
      grind

/-! ### cleared step by step -/
def Mn (A : Mx) (k a c : Nat) : Mx := fun r j => (if r < k then A r else A a) (if j < k then j else c)
structure Inv (n : Nat) (A U : Mx) (last : Int) (k : Nat) : Prop where
  ne : last ≠ 0
  lead : last = C k A
  zero : ∀ a, k ≤ a → a < n → ∀ j, j < k → U a j = 0
  comb : ∀ a, k ≤ a → a < n → ∃ m : Int, m ≠ 0 ∧ ∃ c : Nat → Int, ∀ j, j < n → m * U a j = m * last * A a j + sm k fun t => c t * A t j
theorem Inv.start {n : Nat} {A U : Mx} (h : ∀ a j, a < n → j < n → U a j = A a j) : Inv n A U 1 0 :=
  ⟨by decide, rfl, fun _ _ _ _ h => by omega, fun a _ ha => ⟨1, by decide, fun _ => 0, fun j hj => by rw [h a j ha hj]; simp [sm]⟩⟩
/-- one more row, as the rows above make it -/
theorem lastRow {A : Mx} {k a c n : Nat} {m lam : Int} {cf v : Nat → Int} (hk : k < n) (hc : c < n) (hv : ∀ j, j < n → m * v j = lam * A a j + sm k fun t => cf t * A t j) (hz : ∀ j, j < k → v j = 0) :
    m * (v c * C k A) = lam * C (k + 1) (Mn A k a c) := by
  have col : ∀ j, j < k + 1 → (if j < k then j else c) < n := fun j hj => by split <;> omega
  have op := C_op (n := k + 1) (A := Mn A k a c) (s := k) (k := k) (m := m) (lam := lam) (c := cf) (v := fun j => v (if j < k then j else c)) (by omega) (Nat.le_refl _) fun j hj => by
    rw [hv _ (col j hj)]
    have e1 : Mn A k a c k j = A a (if j < k then j else c) := by
      unfold Mn
      rw [if_neg (by omega)]
    rw [e1]
    congr 1
    refine sm_congr fun t ht => ?_
    unfold Mn
    rw [if_pos ht]
  rw [← op, C_last (n := k) fun j hj => by rw [upd_at, if_pos hj]; exact hz j hj]
  rw [upd_at, if_neg (by omega)]
  congr 2
  refine C_congr fun r j hr hj => ?_
  rw [upd_off (by omega)]
  unfold Mn
  rw [if_pos hr, if_pos hj]
section
variable {n k : Nat} {A U : Mx} {last : Int}
theorem Inv.minor (I : Inv n A U last k) {a c : Nat} (ha : k ≤ a) (hn : a < n) (hc : c < n) : U a c = C (k + 1) (Mn A k a c) := by
  obtain ⟨m, hm, cf, h⟩ := I.comb a ha hn
  have z := lastRow (A := A) (k := k) (a := a) (c := c) (n := n) (m := m) (lam := m * last) (cf := cf) (v := U a) (by omega) hc h (I.zero a ha hn)
  rw [← I.lead] at z
  have z2 : (m * last) * U a c = (m * last) * C (k + 1) (Mn A k a c) := by grind
  exact Int.eq_of_mul_eq_mul_left (Int.mul_ne_zero hm I.ne) z2
theorem Mn_self {k : Nat} {A : Mx} : C (k + 1) (Mn A k k k) = C (k + 1) A := C_congr fun r c hr hc => by
  unfold Mn
  have e1 : (if c < k then c else k) = c := by split <;> omega
  rw [e1]
  by_cases h : r < k
  · rw [if_pos h]
  · rw [if_neg h, show r = k by omega]
theorem Inv.pivot (I : Inv n A U last k) (hk : k < n) : U k k = C (k + 1) A := by rw [I.minor (Nat.le_refl _) hk hk, Mn_self]
/-- what a step makes of a row below -/
def stepQ (A : Mx) (k a j : Nat) : Int := if j ≤ k then 0 else C (k + 2) (Mn A (k + 1) a j)
theorem Inv.rowN (I : Inv n A U last k) (hk : k < n) {a : Nat} (ha : k < a) (hn : a < n) : ∃ m : Int, m ≠ 0 ∧ ∃ c : Nat → Int, ∀ j, j < n → m * (U k k * U a j - U a k * U k j) = m * (U k k * last) * A a j + sm (k + 1) fun t => c t * A t j := by
  obtain ⟨m, hm, cf, h⟩ := I.comb a (by omega) hn
  obtain ⟨m2, hm2, cf2, h2⟩ := I.comb k (Nat.le_refl _) hk
  refine ⟨m * m2, Int.mul_ne_zero hm hm2, fun t => if t < k then U k k * m2 * cf t - U a k * m * cf2 t else -(U a k * m * (m2 * last)), fun j hj => ?_⟩
  have e1 : m * m2 * (U k k * U a j - U a k * U k j) = U k k * m2 * (m * U a j) - U a k * m * (m2 * U k j) := by grind
  rw [e1, h j hj, h2 j hj, sm]
  dsimp only
  rw [if_neg (show ¬ k < k by omega)]
  have e2 : (sm k fun t => (if t < k then U k k * m2 * cf t - U a k * m * cf2 t else -(U a k * m * (m2 * last))) * A t j) = (U k k * m2) * (sm k fun t => cf t * A t j) + (-(U a k * m)) * sm k fun t => cf2 t * A t j := by
    rw [← sm_lin]
    refine sm_congr fun t ht => ?_
    rw [if_pos ht]
    grind
  rw [e2]
  grind
theorem Inv.exact (I : Inv n A U last k) (hk : k < n) (hp : U k k ≠ 0) {a j : Nat} (ha : k < a) (hn : a < n) (hj : j < n) : U k k * U a j - U a k * U k j = last * stepQ A k a j := by
  unfold stepQ
  by_cases e : j ≤ k
  · rw [if_pos e]
    rcases Nat.lt_or_eq_of_le e with e | e
    · rw [I.zero a (by omega) hn j e, I.zero k (Nat.le_refl _) hk j e]
      omega
    · subst e
      grind
  · rw [if_neg e]
    obtain ⟨m, hm, cf, h⟩ := I.rowN hk ha hn
    have z := lastRow (A := A) (k := k + 1) (a := a) (c := j) (n := n) (m := m) (lam := m * (U k k * last)) (cf := cf) (v := fun j => U k k * U a j - U a k * U k j) (by omega) hj h fun i hi => by
      rcases Nat.lt_or_eq_of_le (Nat.le_of_lt_succ hi) with e | e
      · rw [I.zero a (by omega) hn i e, I.zero k (Nat.le_refl _) hk i e]
        omega
      · subst e
        grind
    rw [← I.pivot hk] at z
    have z2 : (m * U k k) * (U k k * U a j - U a k * U k j) = (m * U k k) * (last * C (k + 2) (Mn A (k + 1) a j)) := by grind
    exact Int.eq_of_mul_eq_mul_left (Int.mul_ne_zero hm hp) z2
theorem Inv.step (I : Inv n A U last k) (hk : k < n) (hp : U k k ≠ 0) {U' : Mx} (h : ∀ a, k < a → a < n → ∀ j, j < n → U' a j = stepQ A k a j) : Inv n A U' (U k k) (k + 1) := by
  refine ⟨hp, I.pivot hk, fun a ha hn j hj => ?_, fun a ha hn => ?_⟩
  · rw [h a (by omega) hn j (by omega)]
    exact if_pos (by omega)
  · obtain ⟨m, hm, cf, q⟩ := I.rowN hk (a := a) (by omega) hn
    refine ⟨m * last, Int.mul_ne_zero hm I.ne, cf, fun j hj => ?_⟩
    have z := q j hj
    rw [I.exact hk hp (by omega) hn hj, ← h a (by omega) hn j hj] at z
    grind
/-- rows from k on exchanged -/
theorem Inv.xch (I : Inv n A U last k) {l : Nat} (hk : k < l) (hl : l < n) : Inv n (xch A k l) (xch U k l) last k := by
  have off : ∀ {B : Mx} {t : Nat}, t < k → Dt.xch B k l t = B t := fun {B t} ht => by
    funext c
    unfold Dt.xch
    rw [upd_off (by omega), upd_off (by omega)]
  have row : ∀ a, k ≤ a → a < n → ∃ b, k ≤ b ∧ b < n ∧ ∀ B : Mx, Dt.xch B k l a = B b := fun a ha hn => by
    by_cases e1 : a = l
    · exact ⟨k, Nat.le_refl _, by omega, fun B => by funext c; subst e1; unfold Dt.xch; rw [upd_at]⟩
    · by_cases e2 : a = k
      · exact ⟨l, by omega, hl, fun B => by funext c; subst e2; unfold Dt.xch; rw [upd_off (by omega), upd_at]⟩
      · exact ⟨a, ha, hn, fun B => by funext c; unfold Dt.xch; rw [upd_off e1, upd_off e2]⟩
  refine ⟨I.ne, I.lead.trans (C_congr fun r c hr hc => by rw [off hr]), fun a ha hn j hj => ?_, fun a ha hn => ?_⟩
  · obtain ⟨b, hb1, hb2, e⟩ := row a ha hn
    rw [e]
    exact I.zero b hb1 hb2 j hj
  · obtain ⟨b, hb1, hb2, e⟩ := row a ha hn
    obtain ⟨m, hm, cf, h⟩ := I.comb b hb1 hb2
    refine ⟨m, hm, cf, fun j hj => ?_⟩
    rw [e, e, h j hj]
    congr 1
    refine sm_congr fun t ht => ?_
    rw [off ht]
/-- no row leads: the determinant is nought -/
theorem Inv.none (I : Inv n A U last k) (hk : k < n) (h : ∀ a, k ≤ a → a < n → U a k = 0) : C n A = 0 := by
  have V : ∀ d, k + d ≤ n → ∃ B : Mx, (∀ r c, (r < k ∨ k + d ≤ r) → B r c = A r c) ∧ (∀ r c, k ≤ r → r < k + d → B r c = U r c) ∧ (C n B = 0 → C n A = 0) := by
    intro d
    induction d with
    | zero => exact fun _ => ⟨A, fun _ _ _ => rfl, fun r c h1 h2 => by omega, fun z => z⟩
    | succ d ih =>
      intro hd
      obtain ⟨B, b1, b2, b3⟩ := ih (by omega)
      refine ⟨upd B (k + d) (U (k + d)), fun r c hr => ?_, fun r c h1 h2 => ?_, fun z => b3 ?_⟩
      · rw [upd_off (by omega)]
        exact b1 r c (by omega)
      · by_cases e : r = k + d
        · subst e
          rw [upd_at]
        · rw [upd_off e]
          exact b2 r c h1 (by omega)
      · obtain ⟨m, hm, cf, q⟩ := I.comb (k + d) (by omega) (by omega)
        have op := C_op (n := n) (A := B) (s := k + d) (k := k) (m := m) (lam := m * last) (c := cf) (v := U (k + d)) (by omega) (by omega) fun j hj => by
          rw [q j hj, b1 (k + d) j (by omega)]
          congr 1
          refine sm_congr fun t ht => ?_
          rw [b1 t j (by omega)]
        rw [z, Int.mul_zero] at op
        rcases Int.mul_eq_zero.mp op.symm with y | y
        · exact absurd y (Int.mul_ne_zero hm I.ne)
        · exact y
  obtain ⟨B, b1, b2, b3⟩ := V (n - k) (by omega)
  refine b3 (C_zero hk fun a ha hn c hc => ?_)
  rw [b2 a c ha (by omega)]
  rcases Nat.lt_or_eq_of_le hc with e | e
  · exact I.zero a ha hn c e
  · rw [e]
    exact h a ha hn
end

/-! ### bounds -/
def fct : Nat → Nat
  | 0 => 1
  | n + 1 => (n + 1) * fct n
theorem sm_bound {B : Nat} : ∀ {n : Nat} {f : Nat → Int}, (∀ i, i < n → (f i).natAbs ≤ B) → (sm n f).natAbs ≤ n * B
  | 0, _, _ => by simp [sm]
  | n + 1, f, h => by
    have h1 := sm_bound (n := n) (f := f) fun i hi => h i (by omega)
    have h2 := h n (by omega)
    rw [sm, Nat.succ_mul]
    omega
theorem sg_abs (i : Nat) : (sg i).natAbs = 1 := by
  unfold sg
  split <;> rfl
theorem C_bound {B : Nat} : ∀ {n : Nat} {A : Mx}, (∀ r c, r < n → c < n → (A r c).natAbs ≤ B) → (C n A).natAbs ≤ fct n * B ^ n
  | 0, _, _ => by simp [C, fct]
  | n + 1, A, h => by
    rw [C]
    have e : fct (n + 1) * B ^ (n + 1) = (n + 1) * (B * (fct n * B ^ n)) := by
      rw [fct, Nat.pow_succ]
      grind
    rw [e]
    refine sm_bound fun i hi => ?_
    rw [Int.natAbs_mul, sg_abs, Int.natAbs_mul, Nat.one_mul]
    exact Nat.mul_le_mul (h i 0 hi (by omega)) (C_bound fun r c hr hc => h _ _ (skip_lt hr) (by omega))
theorem fct_pos : ∀ n, 0 < fct n
  | 0 => by decide
  | n + 1 => Nat.mul_pos (by omega) (fct_pos n)
theorem bd_mono {B : Nat} (hB : 0 < B) : ∀ {m n : Nat}, m ≤ n → fct m * B ^ m ≤ fct n * B ^ n
  | m, 0, h => by
    have : m = 0 := by omega
    subst this
    exact Nat.le_refl _
  | m, n + 1, h => by
    rcases Nat.lt_or_eq_of_le h with h | h
    · refine Nat.le_trans (bd_mono hB (m := m) (n := n) (by omega)) ?_
      rw [fct, Nat.pow_succ]
      have h1 : fct n ≤ (n + 1) * fct n := Nat.le_mul_of_pos_left _ (by omega)
      have h2 : B ^ n ≤ B ^ n * B := Nat.le_mul_of_pos_right _ hB
      exact Nat.mul_le_mul h1 h2
    · rw [h]
      exact Nat.le_refl _
theorem Inv.bound {n k : Nat} {A U : Mx} {last : Int} {B : Nat} (I : Inv n A U last k) (hB : 0 < B) (h : ∀ r c, r < n → c < n → (A r c).natAbs ≤ B) {a c : Nat} (ha : k ≤ a) (hn : a < n) (hc : c < n) : (U a c).natAbs ≤ fct n * B ^ n := by
  rw [I.minor ha hn hc]
  refine Nat.le_trans (C_bound (B := B) fun r j hr hj => ?_) (bd_mono hB (by omega))
  unfold Mn
  have e1 : (if j < k then j else c) < n := by split <;> omega
  by_cases e : r < k
  · rw [if_pos e]
    exact h _ _ (by omega) e1
  · rw [if_neg e]
    exact h _ _ hn e1
theorem Inv.boundL {n k : Nat} {A U : Mx} {last : Int} {B : Nat} (I : Inv n A U last k) (hk : k ≤ n) (hB : 0 < B) (h : ∀ r c, r < n → c < n → (A r c).natAbs ≤ B) : last.natAbs ≤ fct n * B ^ n := by
  rw [I.lead]
  exact Nat.le_trans (C_bound fun r c hr hc => h _ _ (by omega) (by omega)) (bd_mono hB hk)

/-! ### lists of rows -/
abbrev LM := List (List Int)
def fn (M : LM) : Mx := fun r c => (M.getD r []).getD c 0
/-- n rows of n numbers -/
def Sq (n : Nat) (M : LM) : Prop := M.length = n ∧ ∀ r ∈ M, r.length = n
def leadL (M : LM) (k : Nat) : Nat → Nat → Option Nat
  | _, 0 => none
  | i, m + 1 => if fn M i k = 0 then leadL M k (i + 1) m else some i
theorem leadL_some {M : LM} {k : Nat} : ∀ {m i l : Nat}, leadL M k i m = some l → i ≤ l ∧ l < i + m ∧ fn M l k ≠ 0
  | m + 1, i, l, h => by
    unfold leadL at h
    split at h
    · have := leadL_some h
      omega
    · cases h
      rename_i h0
      exact ⟨Nat.le_refl _, by omega, h0⟩
theorem leadL_none {M : LM} {k : Nat} : ∀ {m i : Nat}, leadL M k i m = none → ∀ a, i ≤ a → a < i + m → fn M a k = 0
  | 0, i, _, a, h1, h2 => by omega
  | m + 1, i, h, a, h1, h2 => by
    unfold leadL at h
    split at h
    · rename_i h0
      by_cases e : a = i
      · rw [e]; exact h0
      · exact leadL_none h a (by omega) (by omega)
    · cases h
def clrRow (M : LM) (k : Nat) (last : Int) (row : List Int) : List Int := (row.zip (M.getD k [])).map fun p => (fn M k k * p.1 - row.getD k 0 * p.2).fdiv last
def clr (M : LM) (k : Nat) (last : Int) : LM := M.take (k + 1) ++ (M.drop (k + 1)).map (clrRow M k last)
def swp (M : LM) (k l : Nat) : LM := M.take k ++ [M.getD l []] ++ (M.drop (k + 1)).take (l - (k + 1)) ++ [M.getD k []] ++ M.drop (l + 1)
theorem Sq.row {n : Nat} {M : LM} (h : Sq n M) {r : Nat} (hr : r < n) : (M.getD r []).length = n := by
  have hr' : r < M.length := by rw [h.1]; exact hr
  rw [List.getD_eq_getElem?_getD, List.getElem?_eq_getElem hr']
  exact h.2 _ (List.getElem_mem hr')
theorem swp_get {n : Nat} {M : LM} (h : Sq n M) {k l : Nat} (hk : k < l) (hl : l < n) (r : Nat) : (swp M k l).getD r [] = if r = l then M.getD k [] else if r = k then M.getD l [] else M.getD r [] := by
  have h1 := h.1
  unfold swp
  simp only [List.getD_eq_getElem?_getD, List.getElem?_append, List.length_append, List.length_take, List.length_drop, List.length_cons, List.length_nil, List.getElem?_take, List.getElem?_drop]
  rcases Nat.lt_trichotomy r k with e | e | e
  · rw [if_pos (by omega), if_pos (by omega), if_pos (by omega), if_pos (by omega), if_pos (by omega), if_neg (by omega), if_neg (by omega)]
  · subst e
    rw [if_pos (by omega), if_pos (by omega), if_pos (by omega), if_neg (by omega), if_neg (by omega), if_pos rfl]
    simp [show r - min r M.length = 0 by omega]
  · rcases Nat.lt_trichotomy r l with e2 | e2 | e2
    · rw [if_pos (by omega), if_pos (by omega), if_neg (by omega), if_pos (by omega), if_neg (by omega), if_neg (by omega)]
      congr 2
      omega
    · subst e2
      rw [if_pos (by omega), if_neg (by omega), if_pos rfl]
      simp [show r - (min k M.length + 1 + min (r - (k + 1)) (M.length - (k + 1))) = 0 by omega]
    · rw [if_neg (by omega), if_neg (by omega), if_neg (by omega)]
      congr 2
      omega
theorem fn_swp {n : Nat} {M : LM} (h : Sq n M) {k l : Nat} (hk : k < l) (hl : l < n) : fn (swp M k l) = xch (fn M) k l := by
  funext r c
  unfold fn
  rw [swp_get h hk hl]
  unfold xch upd
  by_cases e1 : r = l
  · rw [if_pos e1, if_pos e1]
  · rw [if_neg e1, if_neg e1]
    by_cases e2 : r = k
    · rw [if_pos e2, if_pos e2]
    · rw [if_neg e2, if_neg e2]
theorem sq_swp {n : Nat} {M : LM} (h : Sq n M) {k l : Nat} (hk : k < l) (hl : l < n) : Sq n (swp M k l) := by
  have h1 := h.1
  refine ⟨?_, fun r hr => ?_⟩
  · unfold swp
    simp only [List.length_append, List.length_take, List.length_drop, List.length_cons, List.length_nil]
    omega
  · unfold swp at hr
    simp only [List.mem_append, List.mem_singleton] at hr
    rcases hr with (((hr | hr) | hr) | hr) | hr
    · exact h.2 _ (List.mem_of_mem_take hr)
    · rw [hr]; exact h.row hl
    · exact h.2 _ (List.mem_of_mem_drop (List.mem_of_mem_take hr))
    · rw [hr]; exact h.row (by omega)
    · exact h.2 _ (List.mem_of_mem_drop hr)
theorem clrRow_len {n : Nat} {M : LM} (h : Sq n M) {k : Nat} (hk : k < n) {last : Int} {row : List Int} (hr : row.length = n) : (clrRow M k last row).length = n := by
  unfold clrRow
  rw [List.length_map, List.length_zip, h.row hk, hr]
  omega
theorem sq_clr {n : Nat} {M : LM} (h : Sq n M) {k : Nat} (hk : k < n) {last : Int} : Sq n (clr M k last) := by
  have h1 := h.1
  refine ⟨?_, fun r hr => ?_⟩
  · unfold clr
    simp only [List.length_append, List.length_take, List.length_drop, List.length_map]
    omega
  · unfold clr at hr
    rcases List.mem_append.mp hr with hr | hr
    · exact h.2 _ (List.mem_of_mem_take hr)
    · obtain ⟨row, h2, rfl⟩ := List.mem_map.mp hr
      exact clrRow_len h hk (h.2 _ (List.mem_of_mem_drop h2))
theorem fn_clr {n : Nat} {M : LM} (h : Sq n M) {k : Nat} {last : Int} {a j : Nat} (ha : k < a) (hn : a < n) (hj : j < n) : fn (clr M k last) a j = (fn M k k * fn M a j - fn M a k * fn M k j).fdiv last := by
  have h1 := h.1
  have ha' : a < M.length := by omega
  have e1 : (clr M k last).getD a [] = clrRow M k last (M.getD a []) := by
    unfold clr
    rw [List.getD_eq_getElem?_getD, List.getElem?_append_right (by rw [List.length_take]; omega), List.getElem?_map, List.getElem?_drop, List.length_take]
    rw [show k + 1 + (a - min (k + 1) M.length) = a by omega, List.getElem?_eq_getElem ha']
    simp [List.getD, ha']
  unfold fn at e1 ⊢
  rw [e1]
  have r1 := h.row hn
  have r2 := h.row (r := k) (by omega)
  generalize hA : M.getD a [] = ra at r1 ⊢
  generalize hK : M.getD k [] = rk at r2 ⊢
  have hz : (ra.zip rk)[j]? = some (ra.getD j 0, rk.getD j 0) := List.getElem?_zip_eq_some.mpr ⟨by simp [List.getD, r1, hj], by simp [List.getD, r2, hj]⟩
  unfold clrRow fn
  rw [hK, List.getD_eq_getElem?_getD, List.getElem?_map, hz]
  rfl
theorem fn_clr0 {n : Nat} {M : LM} (h : Sq n M) {k : Nat} (hk : k < n) {last : Int} {j : Nat} : fn (clr M k last) k j = fn M k j := by
  have h1 := h.1
  unfold fn clr
  rw [List.getD_eq_getElem?_getD (l := _ ++ _), List.getElem?_append_left (by rw [List.length_take]; omega), List.getElem?_take, if_pos (by omega), ← List.getD_eq_getElem?_getD]
end Dt
namespace Rim
open PySem PySem.Spec PyProof.Rows L2 Dt

/-! ### determinants, as the program reckons them -/
abbrev B_bottom_of_1 : Ss :=
    (.cons (.set 1 (.bin .mul (.bin .fdiv (.var 1) (.call "common" (.cons .val (.var 1) (.cons .val (.ix (.var 2) (.int 1)) .nil)))) (.ix (.var 2) (.int 1))))
      .nil)
def B_bottom_of : Ss :=
    (.cons (.set 1 (.int 1))
      (.cons (.forr (.nm 2) (.seq (.var 0)) B_bottom_of_1)
      (.cons (.ret (.var 1))
      .nil)))
-- bottom_of: ps ['row'], N ['row', 'found', 'number']
abbrev B_lead_of_1 : Ss :=
    (.cons (.ite (.cmp .ne (.ix (.ix (.var 0) (.var 2)) (.var 1)) (.int 0))
      (.cons (.ret (.var 2))
      .nil)
      .nil)
      .nil)
def B_lead_of : Ss :=
    (.cons (.forr (.nm 2) (.rng2 (.var 1) (.bl1 .len (.var 0))) B_lead_of_1)
      (.cons (.ret .non)
      .nil))
-- lead_of: ps ['rows', 'at'], N ['rows', 'at', 'k']
abbrev B_cleared_1 : Ss :=
    (.cons (.expr (.mutA .append 3 (.cons (.frz (.comp (.bin .fdiv (.bin .sub (.bin .mul (.ix (.ix (.var 0) (.var 1)) (.var 1)) (.var 5)) (.bin .mul (.ix (.var 4) (.var 1)) (.var 6))) (.var 2)) (.tp (.nm 5) (.nm 6)) (.zip (.var 4) (.ix (.var 0) (.var 1))) .no [5, 6])) .nil)))
      .nil)
def B_cleared : Ss :=
    (.cons (.set 3 (.lst .nil))
      (.cons (.forr (.nm 4) (.seq (.sl (.var 0) (.so (.bin .add (.var 1) (.int 1))) .no)) B_cleared_1)
      (.cons (.frz 3)
      (.cons (.ret (.bin .add (.sl (.var 0) .no (.so (.bin .add (.var 1) (.int 1)))) (.var 3)))
      .nil))))
-- cleared: ps ['rows', 'at', 'last'], N ['rows', 'at', 'last', 'made', 'row', 'one', 'two']
abbrev B_whole_determinant_1 : Ss :=
    (.cons (.set 4 (.call "lead_of" (.cons .val (.var 0) (.cons .val (.var 3) .nil))))
      (.cons (.ite (.cmp .isn (.var 4) .non)
      (.cons (.ret (.int 0))
      .nil)
      .nil)
      (.cons (.ite (.cmp .ne (.var 4) (.var 3))
      (.cons (.set 2 (.neg (.var 2)))
      (.cons (.set 0 (.bin .add (.bin .add (.bin .add (.bin .add (.sl (.var 0) .no (.so (.var 3))) (.lst (.cons (.ix (.var 0) (.var 4)) .nil))) (.sl (.var 0) (.so (.bin .add (.var 3) (.int 1))) (.so (.var 4)))) (.lst (.cons (.ix (.var 0) (.var 3)) .nil))) (.sl (.var 0) (.so (.bin .add (.var 4) (.int 1))) .no)))
      (.cons (.frz 0)
      .nil)))
      .nil)
      (.cons (.set 0 (.call "cleared" (.cons .val (.var 0) (.cons .val (.var 3) (.cons .val (.var 1) .nil)))))
      (.cons (.frz 0)
      (.cons (.set 1 (.ix (.ix (.var 0) (.var 3)) (.var 3)))
      .nil))))))
def B_whole_determinant : Ss :=
    (.cons (.set 1 (.int 1))
      (.cons (.set 2 (.int 1))
      (.cons (.forr (.nm 3) (.rng1 (.bl1 .len (.var 0))) B_whole_determinant_1)
      (.cons (.ret (.bin .mul (.var 2) (.var 1)))
      .nil))))
-- whole_determinant: ps ['rows'], N ['rows', 'last', 'sign', 'at', 'lead']
abbrev B_determinant_1 : Ss :=
    (.cons (.expr (.mutA .append 2 (.cons (.frz (.comp (.bin .mul (.ix (.var 6) (.int 0)) (.bin .fdiv (.var 5) (.ix (.var 6) (.int 1)))) (.nm 6) (.seq (.var 4)) .no [6])) .nil)))
      (.cons (.aug 3 .mul (.var 5))
      .nil))
def B_determinant : Ss :=
    (.cons (.set 1 (.comp (.call "bottom_of" (.cons .val (.var 4) .nil)) (.nm 4) (.seq (.var 0)) .no [4]))
      (.cons (.frz 1)
      (.cons (.set 2 (.lst .nil))
      (.cons (.set 3 (.int 1))
      (.cons (.forr (.tp (.nm 4) (.nm 5)) (.zip (.var 0) (.var 1)) B_determinant_1)
      (.cons (.frz 2)
      (.cons (.ret (.call "lowest" (.cons .val (.call "whole_determinant" (.cons .bor (.var 2) .nil)) (.cons .val (.var 3) .nil))))
      .nil)))))))
-- determinant: ps ['grid'], N ['grid', 'bottoms', 'rows', 'bottom', 'row', 'own', 'number']
abbrev rowD (r : List Int) : PyData := .list (r.map .int)
abbrev matD (M : LM) : PyData := .list (M.map rowD)
theorem rngD_succ {lo : Int} {m : Nat} : rngD lo (m + 1) = .int lo :: rngD (lo + 1) m := by
  unfold rngD
  rw [List.range_succ_eq_map, List.map_cons, List.map_map]
  congr 1
  · simp
  · refine List.map_congr_left fun i _ => ?_
    show PyData.int (lo + ((i + 1 : Nat) : Int)) = _
    congr 1
    omega
theorem rngD_zero {lo : Int} : rngD lo 0 = [] := rfl
def rowA (M : LM) (r : Nat) : List Int := M.getD r []
theorem at_mat {M : LM} {r : Nat} (h : r < M.length) : atI (M.map rowD) (r : Int) = some (rowD (rowA M r)) := by
  rw [atI_pos (by omega)]
  simp [rowA, List.getD, h]
theorem at_fn {N : Nat} {M : LM} {r c : Nat} (h : Sq N M) (hr : r < N) (hc : c < N) : atI ((rowA M r).map PyData.int) (c : Int) = some (.int (fn M r c)) := by
  have h1 : (rowA M r).length = N := h.row hr
  rw [atI_pos (by omega)]
  have e : fn M r c = (rowA M r).getD c 0 := rfl
  rw [e]
  simp [List.getD, h1, hc]
theorem at_row {r : List Int} {c : Nat} (h : c < r.length) : atI (r.map PyData.int) (c : Int) = some (.int (r.getD c 0)) := by
  rw [atI_pos (by omega)]
  simp [List.getD, h]
theorem fzs_app {xs ys : List O} : fzs (xs ++ ys) = (fzs xs).bind fun a => (fzs ys).map (a ++ ·) := by
  induction xs with
  | nil => simp
  | cons x xs ih =>
    cases x with
    | fz d =>
      rw [List.cons_append, fzs_cons, fzs_cons, ih]
      cases fzs xs <;> cases fzs ys <;> rfl
    | _ => rfl
theorem ers_app {xs ys : List O} : ers (xs ++ ys) = ers xs ++ ers ys := by
  induction xs with
  | nil => simp
  | cons x xs ih => rw [List.cons_append, ers_cons, ers_cons, ih]; rfl
/-- a walk that may return -/
theorem fo_inv2 {F : Fns} {n : Nat} {tg : Tg} {b : Ss} (P : Nat → Env → Prop) (Q : O → Env → Prop) : ∀ {ds : List PyData} {k : Nat} {e : Env}, P k e →
    (∀ i e d, ds[i]? = some d → P (k + i) e → ∃ e1 e2, setTg tg d e = some e1 ∧ ((exs F n b e1 = .ok .nx e2 ∧ P (k + i + 1) e2) ∨ ∃ o, exs F n b e1 = .ok (.rt o) e2 ∧ Q o e2)) →
    (∃ e', fo F n tg b ds e = .ok .nx e' ∧ P (k + ds.length) e') ∨ ∃ o e', fo F n tg b ds e = .ok (.rt o) e' ∧ Q o e'
  | [], k, e, h0, _ => .inl ⟨e, rfl, h0⟩
  | d :: ds, k, e, h0, hs => by
    obtain ⟨e1, e2, h1, h2⟩ := hs 0 e d rfl h0
    rw [fo_cons, h1]
    simp only
    rcases h2 with ⟨h2, h3⟩ | ⟨o, h2, h3⟩
    · rw [h2, aft_nx]
      have ih := fo_inv2 (F := F) (n := n) (tg := tg) (b := b) P Q (ds := ds) (k := k + 1) (e := e2) h3 fun i e d hd hp => by
        have := hs (i + 1) e d hd (by rw [← Nat.add_assoc, Nat.add_right_comm]; exact hp)
        rw [← Nat.add_assoc, Nat.add_right_comm k i 1] at this
        exact this
      rw [List.length_cons, Nat.add_comm ds.length 1, ← Nat.add_assoc]
      exact ih
    · rw [h2, aft_rt]
      exact .inr ⟨o, e2, rfl, h3⟩
section
variable {F : Fns} {n : Nat}
theorem lead_loop {M : LM} {k N : Nat} (hM : Sq N M) (hk : k < N) : ∀ {m i : Nat} {x2 : Option O}, i + m = N → ∃ x2', fo F n (.nm 2) B_lead_of_1 (rngD i m) [some (.fz (matD M)), some (iO k), x2] =
    (match leadL M k i m with | some l => .ok (.rt (iO l)) [some (.fz (matD M)), some (iO k), some (iO l)] | none => .ok .nx [some (.fz (matD M)), some (iO k), x2'])
  | 0, i, x2, h => ⟨x2, by rw [rngD_zero]; rfl⟩
  | m + 1, i, x2, h => by
    have hi : i < M.length := by rw [hM.1]; omega
    have e1 := at_mat hi
    have e2 := at_fn hM (r := i) (c := k) (by omega) hk
    rw [rngD_succ, fo_cons]
    unfold leadL
    by_cases h0 : fn M i k = 0
    · obtain ⟨y, hy⟩ := lead_loop hM hk (m := m) (i := i + 1) (x2 := some (iO i)) (by omega)
      refine ⟨y, ?_⟩
      rw [if_pos h0, ← hy]
      simp [setTg, pl, qt, e1, e2, h0, B_lead_of_1]
    · refine ⟨x2, ?_⟩
      rw [if_neg h0]
      simp [setTg, pl, qt, e1, e2, h0, B_lead_of_1]
theorem lead_ok {M : LM} {k N : Nat} (hM : Sq N M) (hk : k < N) (hN : N < 1000000) : runB F n 2 1 B_lead_of [.fz (matD M), iO k] = .ok (match leadL M k k (N - k) with | some l => iO l | none => .fz .none) [some (.fz (matD M)), some (iO k)] := by
  unfold runB B_lead_of
  obtain ⟨y, hy⟩ := lead_loop (F := F) (n := n) hM hk (m := N - k) (i := k) (x2 := none) (by omega)
  have e1 : rngOk (k : Int) = true := by unfold rngOk; exact Nat.ble_eq_true_of_le (by omega)
  have e2 : rngOk (N : Int) = true := by unfold rngOk; exact Nat.ble_eq_true_of_le (by omega)
  simp [pl, qt, e1, e2, hM.1, hy, asSs, asS, tgS, wipeE]
  cases leadL M k k (N - k) <;> simp [asSs, asS, tgS, wipeE]
theorem o_fdivA {i d : Int} (h : d ≠ 0) (h2 : d.natAbs < 2 ^ 8999) : binO .fdiv (iO i) (iO d) = some (iO (i.fdiv d)) := by
  have hl : d.natAbs.log2 < 8999 := (Nat.log2_lt (by omega)).mpr h2
  rcases Int.lt_or_gt_of_ne h with c | c
  · refine o_fdivN ?_
    unfold cdivN
    rw [decide_eq_true c, decide_eq_true (by omega)]
    rfl
  · rw [o_fdiv (cdivB_lit c h2), Int.fdiv_eq_ediv_of_nonneg _ (by omega)]
theorem zip_ints (xs ys : List Int) : (xs.map PyData.int).zip (ys.map PyData.int) = (xs.zip ys).map fun p => (PyData.int p.1, PyData.int p.2) := by
  rw [List.zip_map]
  rfl
theorem zip_pairs (xs ys : List Int) : ((xs.map PyData.int).zip (ys.map PyData.int)).map (fun p => PyData.tuple [p.1, p.2]) = (xs.zip ys).map fun p => tup2 p.1 p.2 := by
  rw [zip_ints, List.map_map]
  rfl
/-- a comprehension over pairs of numbers -/
theorem co_ints {F : Fns} {v u : Nat} {elt : E} {e : Env} {g : Int → Int → O} (hv : e[v]? = some none) (hu : e[u]? = some none) (hvu : v ≠ u) : ∀ {ps : List (Int × Int)}, (∀ p ∈ ps, ev F false elt ((e.set v (some (iO p.1))).set u (some (iO p.2))) = .ok (g p.1 p.2) ((e.set v (some (iO p.1))).set u (some (iO p.2)))) →
    co F (.tp (.nm v) (.nm u)) [v, u] .no elt (ps.map fun p => tup2 p.1 p.2) e = .ok (ps.map fun p => g p.1 p.2) e := by
  intro ps h
  have z := co_map2 (F := F) (v := v) (u := u) (elt := elt) (e := e) (g := fun a b => match a, b with | .int a, .int b => g a b | _, _ => .fz .none) hv hu hvu (ps := ps.map fun p => (PyData.int p.1, PyData.int p.2)) fun p hp => by
    obtain ⟨q, hq, rfl⟩ := List.mem_map.mp hp
    exact h q hq
  rw [List.map_map, List.map_map] at z
  exact z
/-- numbers that may be multiplied -/
def Sm (b : Nat) (i : Int) : Prop := i.natAbs < 2 ^ b
theorem clr_turn {M : LM} {k N b : Nat} {last : Int} (hM : Sq N M) (hk : k < N) (hb : b + b ≤ 134217728) (h0 : last ≠ 0) (hl : last.natAbs < 2 ^ 8999) (hs : ∀ a c, k ≤ a → a < N → c < N → Sm b (fn M a c)) {a : Nat} (ha : k < a) (hn : a < N) (hN : N < 1000000) {done : List O} (hd : done.length < N) {x4 : Option O} :
    exs F n B_cleared_1 [some (.fz (matD M)), some (iO k), some (iO last), some (.lst done), some (.fz (rowD (rowA M a))), none, none] =
      .ok .nx [some (.fz (matD M)), some (iO k), some (iO last), some (.lst (done ++ [.fz (rowD (clrRow M k last (rowA M a)))])), some (.fz (rowD (rowA M a))), none, none] := by
  have e1 := at_mat (M := M) (r := k) (by rw [hM.1]; exact hk)
  have e2 := at_fn hM hk hk
  have e3 := at_fn hM hn hk
  have l1 : (rowA M a).length = N := hM.row hn
  have l2 : (rowA M k).length = N := hM.row hk
  have room : done.length < sizeLine := by unfold sizeLine; omega
  have cc := co_ints (F := F) (v := 5) (u := 6) (elt := .bin .fdiv (.bin .sub (.bin .mul (.ix (.ix (.var 0) (.var 1)) (.var 1)) (.var 5)) (.bin .mul (.ix (.var 4) (.var 1)) (.var 6))) (.var 2))
    (e := [some (.fz (matD M)), some (iO k), some (iO last), some (.lst done), some (.fz (rowD (rowA M a))), none, none]) (g := fun x y => iO ((fn M k k * x - fn M a k * y).fdiv last)) rfl rfl (by decide) (ps := (rowA M a).zip (rowA M k)) fun p hp => by
    obtain ⟨j, hj⟩ := List.mem_iff_getElem?.mp hp
    obtain ⟨j1, j2⟩ := List.getElem?_zip_eq_some.mp hj
    have hjN : j < N := by
      rcases Nat.lt_or_ge j N with z | z
      · exact z
      · rw [List.getElem?_eq_none (by omega)] at j1; cases j1
    have p1 : p.1 = fn M a j := by
      show _ = (rowA M a).getD j 0
      rw [List.getD_eq_getElem?_getD, j1]; rfl
    have p2 : p.2 = fn M k j := by
      show _ = (rowA M k).getD j 0
      rw [List.getD_eq_getElem?_getD, j2]; rfl
    have c1 : cmulB (fn M k k) p.1 = true := by rw [p1]; exact cmulB_of (hs k k (Nat.le_refl _) hk hk) (hs a j (by omega) hn hjN) hb
    have c2 : cmulB (fn M a k) p.2 = true := by rw [p2]; exact cmulB_of (hs a k (by omega) hn hk) (hs k j (Nat.le_refl _) hk hjN) hb
    simp [pl, qt, e1, e2, e3, c1, c2, o_fdivA h0 hl]
  have er1 : ((rowA M a).zip (rowA M k)).map (fun p => iO ((fn M k k * p.1 - fn M a k * p.2).fdiv last)) = ((clrRow M k last (rowA M a)).map PyData.int).map .fz := by
    unfold clrRow
    rw [List.map_map, List.map_map]
    rfl
  rw [er1] at cc
  have rm : strRoom ((clrRow M k last (rowA M a)).map PyData.int).length = true := by
    rw [List.length_map]
    have : (clrRow M k last (rowA M a)).length = N := clrRow_len hM hk l1
    rw [this]
    exact Nat.ble_eq_true_of_le (by unfold sizeLine; omega)
  simp at rm
  simp [B_cleared_1, wipeE, e1, zip_pairs, cc, rm, pl, qt, qts, mutO_append room, -List.map_map]
theorem drop_rows {M : LM} {k : Nat} : (M.map rowD).drop k = (M.drop k).map rowD := by rw [List.map_drop]
theorem sIx_of {n : Nat} {i : Int} {a : Nat} (h0 : 0 ≤ i) (h : i ≤ n) : HT.sIx n a (some i) = i.toNat := by
  unfold HT.sIx
  simp only []
  first
    | (rw [if_neg (by omega)]; omega)
    | (simp; split <;> omega)
theorem cleared_ok {M : LM} {k N b : Nat} {last : Int} (hM : Sq N M) (hk : k < N) (hb : b + b ≤ 134217728) (h0 : last ≠ 0) (hl : last.natAbs < 2 ^ 8999) (hs : ∀ a c, k ≤ a → a < N → c < N → Sm b (fn M a c)) (hN : N < 1000000) :
    runB F n 3 4 B_cleared [.fz (matD M), iO k, iO last] = .ok (.lst (((clr M k last).map rowD).map .fz)) [some (.fz (matD M)), some (iO k), some (iO last)] := by
  unfold runB B_cleared
  obtain ⟨e', g1, x4, done, g2, g3⟩ := fo_inv (F := F) (n := n) (tg := .nm 4) (b := B_cleared_1) (ds := (M.drop (k + 1)).map rowD) (k := 0) (fun i e => ∃ x4 done, e = [some (.fz (matD M)), some (iO k), some (iO last), some (.lst done), x4, none, none] ∧ done = ((M.drop (k + 1)).take i).map fun r => .fz (rowD (clrRow M k last r)))
    ⟨none, [], rfl, by simp⟩ (fun i e d hd hp => by
      obtain ⟨x4, done, rfl, hdn⟩ := hp
      rw [Nat.zero_add] at hdn ⊢
      rw [List.getElem?_map, List.getElem?_drop] at hd
      obtain ⟨r, hr, rfl⟩ := Option.map_eq_some_iff.mp hd
      have hlt : k + 1 + i < M.length := by
        rcases Nat.lt_or_ge (k + 1 + i) M.length with z | z
        · exact z
        · rw [List.getElem?_eq_none z] at hr; cases hr
      have er : r = rowA M (k + 1 + i) := by
        unfold rowA
        rw [List.getD_eq_getElem?_getD, hr]
        rfl
      have hM1 := hM.1
      refine ⟨_, _, rfl, .inl (er ▸ clr_turn (F := F) (n := n) hM hk hb h0 hl hs (a := k + 1 + i) (by omega) (by omega) hN (done := done) (by rw [hdn, List.length_map, List.length_take]; omega) (x4 := none)), _, _, rfl, ?_⟩
      have hi : i < (M.drop (k + 1)).length := by rw [List.length_drop]; omega
      rw [List.take_succ_eq_append_getElem hi, List.map_append, hdn]
      congr 1
      have : (M.drop (k + 1))[i] = rowA M (k + 1 + i) := by
        rw [← er]
        rw [List.getElem_drop]
        rw [List.getElem?_eq_getElem hlt] at hr
        exact Option.some.inj hr
      simp [this, er])
  have hM1 := hM.1
  have s1 : cutD (M.map rowD) (some (k + 1 : Int)) none = (M.drop (k + 1)).map rowD := by
    unfold cutD
    rw [sIx_of (by omega) (by rw [List.length_map]; omega)]
    have : HT.sIx (M.map rowD).length (M.map rowD).length none = (M.map rowD).length := rfl
    rw [this, List.take_of_length_le (by rw [List.length_drop]; omega), List.map_drop]
    congr 1
  have s2 : cutD (M.map rowD) none (some (k + 1 : Int)) = (M.take (k + 1)).map rowD := by
    unfold cutD
    rw [sIx_of (by omega) (by rw [List.length_map]; omega)]
    have : HT.sIx (M.map rowD).length 0 none = 0 := rfl
    rw [this, Nat.sub_zero, List.drop_zero, List.map_take]
    congr 1
  rw [List.length_map, Nat.zero_add, List.take_of_length_le (by rw [List.length_drop]; omega)] at g3
  subst g2
  have fin : (.list (ers done) : PyData) = .list (((M.drop (k + 1)).map (clrRow M k last)).map rowD) := by
    rw [g3, ers_map2, List.map_map]
    congr 1
  have room : min (k + 1) M.length + (M.length - (k + 1)) ≤ sizeLine := by unfold sizeLine; omega
  injection fin with fin
  simp [pl, qt, qtO, sliceO, Rim.listOf, s1, s2, g1, fin, binO, strRoom, room, asSs, asS, tgS, wipeE, clr, -List.map_map, -List.map_drop, -List.map_take]
theorem cut_lo {M : LM} {i : Int} {a : Nat} (e : i = a) (h : a ≤ M.length) : cutD (M.map rowD) (some i) none = (M.drop a).map rowD := by
  subst e
  unfold cutD
  rw [sIx_of (by omega) (by rw [List.length_map]; omega)]
  have : HT.sIx (M.map rowD).length (M.map rowD).length none = (M.map rowD).length := rfl
  rw [this, List.take_of_length_le (by rw [List.length_drop]; omega), List.map_drop]
  congr 1
theorem cut_hi {M : LM} {i : Int} {a : Nat} (e : i = a) (h : a ≤ M.length) : cutD (M.map rowD) none (some i) = (M.take a).map rowD := by
  subst e
  unfold cutD
  rw [sIx_of (by omega) (by rw [List.length_map]; omega)]
  have : HT.sIx (M.map rowD).length 0 none = 0 := rfl
  rw [this, Nat.sub_zero, List.drop_zero, List.map_take]
  congr 1
theorem cut_mid {M : LM} {i j : Int} {a b : Nat} (e : i = a) (e2 : j = b) (h : a ≤ M.length) (h2 : b ≤ M.length) : cutD (M.map rowD) (some i) (some j) = ((M.drop a).take (b - a)).map rowD := by
  subst e e2
  unfold cutD
  rw [sIx_of (by omega) (by rw [List.length_map]; omega), sIx_of (by omega) (by rw [List.length_map]; omega), List.map_take, List.map_drop]
  congr 1
def LeadF (F : Fns) : Prop := ∀ (M : LM) (k N : Nat), Sq N M → k < N → N < 1000000 → F "lead_of" [.fz (matD M), iO k] = .ok (match leadL M k k (N - k) with | some l => iO l | none => .fz .none) [some (.fz (matD M)), some (iO k)]
def ClearF (F : Fns) : Prop := ∀ (M : LM) (k N b : Nat) (last : Int), Sq N M → k < N → b + b ≤ 134217728 → last ≠ 0 → last.natAbs < 2 ^ 8999 → (∀ a c, k ≤ a → a < N → c < N → Sm b (fn M a c)) → N < 1000000 →
    F "cleared" [.fz (matD M), iO k, iO last] = .ok (.lst (((clr M k last).map rowD).map .fz)) [some (.fz (matD M)), some (iO k), some (iO last)]
/-- the second half of a turn: the rows below are cleared -/
theorem det_half (hC : ClearF F) {M : LM} {k N B : Nat} {A : Mx} {last sign : Int} (hM : Sq N M) (hk : k < N) (hN : N < 1000000) (I : Inv N A (fn M) last k) (hB : 0 < B) (hA : ∀ r c, r < N → c < N → (A r c).natAbs ≤ B) (hbd : fct N * B ^ N < 2 ^ 8999) (hp : fn M k k ≠ 0) {x4 : Option O} :
    F "cleared" [.fz (matD M), iO k, iO last] = .ok (.lst (((clr M k last).map rowD).map .fz)) [some (.fz (matD M)), some (iO k), some (iO last)] ∧ Sq N (clr M k last) ∧ Inv N A (fn (clr M k last)) (fn M k k) (k + 1) ∧ fn (clr M k last) k k = fn M k k := by
  refine ⟨hC M k N 8999 last hM hk (by decide) I.ne ?_ (fun a c ha hn hc => ?_) hN, sq_clr hM hk, I.step hk hp fun a ha hn j hj => ?_, fn_clr0 hM hk⟩
  · exact Nat.lt_of_le_of_lt (I.boundL (by omega) hB hA) hbd
  · exact Nat.lt_of_le_of_lt (I.bound hB hA ha hn hc) hbd
  · rw [fn_clr hM ha hn hj, I.exact hk hp ha hn hj, Int.mul_fdiv_cancel_left _ I.ne]
def DetP (N B : Nat) (D : Int) (k : Nat) (e : Env) : Prop := ∃ (M : LM) (last sign : Int) (A : Mx) (x3 x4 : Option O), e = [some (.fz (matD M)), some (iO last), some (iO sign), x3, x4] ∧ Sq N M ∧ Inv N A (fn M) last k ∧ sign.natAbs = 1 ∧ sign * C N A = D ∧ ∀ r c, r < N → c < N → (A r c).natAbs ≤ B
theorem xch_bound {N B k l : Nat} {A : Mx} (hk : k < N) (hl : l < N) (h : ∀ r c, r < N → c < N → (A r c).natAbs ≤ B) : ∀ r c, r < N → c < N → (xch A k l r c).natAbs ≤ B := by
  intro r c hr hc
  unfold xch Dt.upd
  split
  · exact h _ _ hk hc
  · split
    · exact h _ _ hl hc
    · exact h _ _ hr hc
theorem det_turn (hL : LeadF F) (hC : ClearF F) {N B : Nat} {D : Int} (hN : N < 1000000) (hB : 0 < B) (hbd : fct N * B ^ N < 2 ^ 8999) {k : Nat} (hk : k < N) {e : Env} (h : DetP N B D k e) :
    ∃ e2, (exs F n B_whole_determinant_1 (e.set 3 (some (iO k))) = .ok .nx e2 ∧ DetP N B D (k + 1) e2) ∨ ∃ o, exs F n B_whole_determinant_1 (e.set 3 (some (iO k))) = .ok (.rt o) e2 ∧ (o = iO D ∧ ∃ a b c d f, e2 = [a, b, c, d, f]) := by
  obtain ⟨M, last, sign, A, x3, x4, rfl, hM, I, hs, hD, hA⟩ := h
  have hl := hL M k N hM hk hN
  cases hlead : leadL M k k (N - k) with
  | none =>
    rw [hlead] at hl
    have z := I.none hk fun a ha hn => leadL_none hlead a ha (by omega)
    rw [z, Int.mul_zero] at hD
    subst hD
    refine ⟨[some (.fz (matD M)), some (iO last), some (iO sign), some (iO k), some (.fz .none)], .inr ⟨iO 0, ?_, rfl, _, _, _, _, _, rfl⟩⟩
    simp [B_whole_determinant_1, pl, qt, hl, hasBor, backAr, Ar.o, cmpO, isNonD]
  | some l =>
    rw [hlead] at hl
    simp only at hl
    obtain ⟨l1, l2, l3⟩ := leadL_some hlead
    have hM1 := hM.1
    by_cases e1 : l = k
    · subst e1
      obtain ⟨c1, c2, c3, c4⟩ := det_half hC hM hk hN I hB hA hbd l3 (sign := sign) (x4 := x4)
      have a1 := at_mat (M := clr M l last) (r := l) (by rw [c2.1]; exact hk)
      have a2 := at_fn c2 hk hk
      rw [c4] at a2
      refine ⟨[some (.fz (matD (clr M l last))), some (iO (fn M l l)), some (iO sign), some (iO l), some (iO l)], .inl ⟨?_, _, _, _, A, _, _, rfl, c2, c3, hs, hD, hA⟩⟩
      simp [B_whole_determinant_1, pl, qt, hl, hasBor, backAr, Ar.o, cmpO, isNonD, c1, a1, a2, -List.map_map]
    · have hkl : k < l := by omega
      have hln : l < N := by omega
      have S2 := sq_swp hM hkl hln
      have I2 := I.xch hkl hln
      rw [← fn_swp hM hkl hln] at I2
      have p2 : fn (swp M k l) k k ≠ 0 := by
        rw [fn_swp hM hkl hln]
        unfold xch
        rw [upd_off (by omega), upd_at]
        exact l3
      obtain ⟨c1, c2, c3, c4⟩ := det_half hC S2 hk hN I2 hB (xch_bound hk hln hA) hbd p2 (sign := sign) (x4 := x4)
      have a1 := at_mat (M := clr (swp M k l) k last) (r := k) (by rw [c2.1]; exact hk)
      have a2 := at_fn c2 hk hk
      rw [c4] at a2
      have b1 := at_mat (M := M) (r := k) (by omega)
      have b2 := at_mat (M := M) (r := l) (by omega)
      have s1 := cut_hi (M := M) (i := k) rfl (by omega)
      have s2 := cut_lo (M := M) (i := (l : Int) + 1) (a := l + 1) (by omega) (by omega)
      have s3 := cut_mid (M := M) (i := (k : Int) + 1) (j := l) (a := k + 1) (by omega) rfl (by omega) (by omega)
      have sw : (swp M k l).map rowD = (M.take k).map rowD ++ (rowD (rowA M l) :: (((M.drop (k + 1)).take (l - (k + 1))).map rowD ++ rowD (rowA M k) :: (M.drop (l + 1)).map rowD)) := by
        unfold swp rowA
        simp only [List.map_append, List.map_cons, List.map_nil, List.append_assoc, List.cons_append, List.nil_append]
      have hle : ¬ (l : Int) = k := by omega
      refine ⟨[some (.fz (matD (clr (swp M k l) k last))), some (iO (fn (swp M k l) k k)), some (iO (-sign)), some (iO k), some (iO l)], .inl ⟨?_, _, _, _, xch A k l, _, _, rfl, c2, c3, by omega, ?_, xch_bound hk hln hA⟩⟩
      · have q0 : ((swp M k l).map rowD).length ≤ sizeLine := by rw [List.length_map, S2.1]; unfold sizeLine; omega
        rw [matD] at c1
        generalize (M.take k).map rowD = tk at s1 sw
        generalize ((M.drop (k + 1)).take (l - (k + 1))).map rowD = md at s3 sw
        generalize (M.drop (l + 1)).map rowD = dr at s2 sw
        rw [sw] at c1 q0
        rw [List.length_append, List.length_cons, List.length_append, List.length_cons] at q0
        have q1 : tk.length + 1 ≤ sizeLine := by omega
        have q2 : tk.length + 1 + md.length ≤ sizeLine := by omega
        have q3 : tk.length + (md.length + 1) + 1 ≤ sizeLine := by omega
        have q3' : tk.length + 1 + md.length + 1 ≤ sizeLine := by omega
        have q4 : tk.length + 1 + md.length + 1 + dr.length ≤ sizeLine := by omega
        have q5 : 1 ≤ sizeLine := by decide
        have q6 : tk.length + (md.length + 1 + 1) + dr.length ≤ sizeLine := by omega
        have q7 : tk.length + (md.length + 1) ≤ sizeLine := by omega
        have q8 : tk.length + (md.length + 1 + 1) ≤ sizeLine := by omega
        simp [B_whole_determinant_1, pl, qt, qtO, qts, hl, hasBor, backAr, Ar.o, cmpO, isNonD, hle, sliceO, Rim.listOf, s1, s2, s3, b1, b2, binO, strRoom, q1, q2, q3, q3', q4, q5, q6, q7, q8, c1, a1, a2, fzs_app, ers_app, -List.map_map]
      · rw [C_xch hkl hln]
        grind
theorem whole_det_ok (hL : LeadF F) (hC : ClearF F) {M : LM} {N B : Nat} (hM : Sq N M) (hN : N < 1000000) (hB : 0 < B) (hA : ∀ r c, r < N → c < N → (fn M r c).natAbs ≤ B) (hbd : fct N * B ^ N < 2 ^ 8999) :
    runB F n 1 4 B_whole_determinant [.fz (matD M)] = .ok (iO (C N (fn M))) [none] := by
  unfold runB B_whole_determinant
  have go := fo_inv2 (F := F) (n := n) (tg := .nm 3) (b := B_whole_determinant_1) (DetP N B (C N (fn M))) (fun o e => o = iO (C N (fn M)) ∧ ∃ a b c d f, e = [a, b, c, d, f]) (ds := rngD 0 N) (k := 0) (e := [some (.fz (matD M)), some (iO 1), some (iO 1), none, none])
    ⟨M, 1, 1, fn M, none, none, rfl, hM, Inv.start fun _ _ _ _ => rfl, rfl, by omega, hA⟩ fun i e d hd hp => by
      obtain ⟨hi, rfl⟩ := rngD_get hd
      rw [Nat.zero_add] at hp ⊢
      obtain ⟨e2, h2⟩ := det_turn (F := F) (n := n) hL hC hN hB hbd hi hp
      rw [Int.zero_add]
      exact ⟨_, e2, rfl, h2⟩
  have rg : rngOk (N : Int) = true := by unfold rngOk; exact Nat.ble_eq_true_of_le (by omega)
  have hM1 := hM.1
  rcases go with ⟨e', g1, g2⟩ | ⟨o, e', g1, rfl, a, b, c, d, f, rfl⟩
  · obtain ⟨M', last, sign, A, x3, x4, rfl, h1, h2, h3, h4, h5⟩ := g2
    rw [Nat.zero_add, rngD_len] at h2
    rw [← h2.lead] at h4
    have m1 : cmulB sign last = true := cmulB_of (a := 1) (b := 8999) (by omega) (Nat.lt_of_le_of_lt (h2.boundL (Nat.le_refl _) hB h5) hbd) (by decide)
    simp [pl, qt, hM1, rg, g1, m1, h4, asSs, asS, tgS, wipeE, -List.map_map]
  · skip
    simp [pl, qt, hM1, rg, g1, asSs, asS, tgS, wipeE, -List.map_map]
/-! ### grids of fractions -/
abbrev Fr := Int × Int
abbrev frD (p : Fr) : PyData := tup2 p.1 p.2
abbrev frRow (r : List Fr) : PyData := .list (r.map frD)
abbrev grD (G : List (List Fr)) : PyData := .list (G.map frRow)
def lcS (f : Int) (p : Fr) : Int := f / (Int.gcd f p.2 : Int) * p.2
def lcR (r : List Fr) : Int := r.foldl lcS 1
theorem lcS_pos {f : Int} {p : Fr} (hf : 0 < f) (hq : 0 < p.2) : 0 < lcS f p := by
  unfold lcS
  exact Int.mul_pos (Int.ediv_pos_of_pos_of_dvd hf (by omega) (Int.gcd_dvd_left f p.2)) hq
theorem lcS_dvd {f : Int} {p : Fr} : f ∣ lcS f p ∧ p.2 ∣ lcS f p := by
  unfold lcS
  refine ⟨?_, Int.dvd_mul_left _ _⟩
  obtain ⟨c, hc⟩ := Int.gcd_dvd_right f p.2
  obtain ⟨d, hd⟩ := Int.gcd_dvd_left f p.2
  by_cases hg : (Int.gcd f p.2 : Int) = 0
  · rw [hg] at hc
    rw [hc]
    simp
  · refine ⟨c, ?_⟩
    have e1 : f / (Int.gcd f p.2 : Int) = d := by
      conv => lhs; lhs; rw [hd]
      exact Int.mul_ediv_cancel_left _ hg
    rw [e1]
    conv => lhs; rhs; rw [hc]
    conv => rhs; lhs; rw [hd]
    ac_rfl
theorem lcS_le {f : Int} {p : Fr} (hf : 0 < f) (hq : 0 < p.2) : lcS f p ≤ f * p.2 := by
  unfold lcS
  exact Int.mul_le_mul_of_nonneg_right (Int.ediv_le_self _ (by omega)) (by omega)
theorem fold_lc {b : Nat} : ∀ {r : List Fr} {f : Int} {m : Nat}, (∀ p ∈ r, 0 < p.2 ∧ p.2.natAbs < 2 ^ b) → 0 < f → f.natAbs ≤ 2 ^ m → 0 < r.foldl lcS f ∧ (r.foldl lcS f).natAbs ≤ 2 ^ (m + b * r.length) ∧ f ∣ r.foldl lcS f ∧ ∀ p ∈ r, p.2 ∣ r.foldl lcS f
  | [], f, m, _, hf, hm => ⟨hf, by simpa using hm, Int.dvd_refl _, by simp⟩
  | p :: r, f, m, h, hf, hm => by
    have hp := h p (by simp)
    have h1 := lcS_pos (p := p) hf hp.1
    have h2 : (lcS f p).natAbs ≤ 2 ^ (m + b) := by
      have := lcS_le (p := p) hf hp.1
      have e : f * p.2 = ((f.natAbs * p.2.natAbs : Nat) : Int) := by
        rw [Int.natCast_mul, Int.natAbs_of_nonneg (by omega), Int.natAbs_of_nonneg (by omega)]
      have k : f.natAbs * p.2.natAbs ≤ 2 ^ m * 2 ^ b := Nat.mul_le_mul hm (by omega)
      rw [Nat.pow_add]
      omega
    obtain ⟨a1, a2, a3, a4⟩ := fold_lc (r := r) (f := lcS f p) (m := m + b) (fun q hq => h q (by simp [hq])) h1 h2
    rw [List.foldl_cons]
    refine ⟨a1, ?_, Int.dvd_trans lcS_dvd.1 a3, fun q hq => ?_⟩
    · rw [List.length_cons, show m + b * (r.length + 1) = m + b + b * r.length by rw [Nat.mul_succ]; omega]
      exact a2
    · rcases List.mem_cons.mp hq with e | hq
      · rw [e]
        exact Int.dvd_trans lcS_dvd.2 a3
      · exact a4 q hq
theorem lcR_ok {b : Nat} {r : List Fr} (h : ∀ p ∈ r, 0 < p.2 ∧ p.2.natAbs < 2 ^ b) : 0 < lcR r ∧ (lcR r).natAbs ≤ 2 ^ (b * r.length) ∧ ∀ p ∈ r, p.2 ∣ lcR r := by
  obtain ⟨a1, a2, _, a4⟩ := fold_lc (f := 1) (m := 0) h (by decide) (by decide)
  rw [Nat.zero_add] at a2
  exact ⟨a1, a2, a4⟩
def CommonF (F : Fns) (n : Nat) : Prop := ∀ x y : Nat, y < n → F "common" [iO x, iO y] = .ok (iO (Nat.gcd x y)) [none, none]
theorem bottom_ok (hc : CommonF F n) {b : Nat} (hb : b ≤ 8999) (hn : 2 ^ b ≤ n) {r : List Fr} (h : ∀ p ∈ r, 0 < p.2 ∧ p.2.natAbs < 2 ^ b) (hl : r.length ≤ 10000) : runB F n 1 2 B_bottom_of [.fz (frRow r)] = .ok (iO (lcR r)) [some (.fz (frRow r))] := by
  unfold runB B_bottom_of
  obtain ⟨e', g1, f, x2, g2, g3, g4, g5⟩ := fo_inv (F := F) (n := n) (tg := .nm 2) (b := B_bottom_of_1) (ds := r.map frD) (k := 0) (fun i e => ∃ f x2, e = [some (.fz (frRow r)), some (iO f), x2] ∧ 0 < f ∧ f.natAbs ≤ 2 ^ (b * i) ∧ f = (r.take i).foldl lcS 1)
    ⟨1, none, rfl, by decide, by simp, by simp⟩ (fun i e d hd hp => by
      obtain ⟨f, x2, rfl, q1, q2, q3⟩ := hp
      rw [Nat.zero_add] at q2 q3 ⊢
      rw [List.getElem?_map] at hd
      obtain ⟨p, hp, rfl⟩ := Option.map_eq_some_iff.mp hd
      have hi : i < r.length := by
        rcases Nat.lt_or_ge i r.length with z | z
        · exact z
        · rw [List.getElem?_eq_none z] at hp; cases hp
      have hpr : p ∈ r := List.mem_of_getElem? hp
      obtain ⟨k1, k2⟩ := h p hpr
      have c := hc f.natAbs p.2.natAbs (by omega)
      have e1 : ((f.natAbs : Nat) : Int) = f := by omega
      have e2 : ((p.2.natAbs : Nat) : Int) = p.2 := by omega
      rw [e1, e2] at c
      have gb := gcd_bound (a := f) (b := p.2) (m := 8999) (Nat.lt_of_lt_of_le k2 (Nat.pow_le_pow_right (by decide) hb)) k1
      have g : Nat.gcd f.natAbs p.2.natAbs = Int.gcd f p.2 := rfl
      rw [g] at c
      have cd := cdivB_lit gb.1 gb.2
      have small : (f / (Int.gcd f p.2 : Int)).natAbs ≤ f.natAbs := by
        rw [Int.natAbs_ediv_of_dvd (Int.gcd_dvd_left f p.2)]
        exact Nat.div_le_self _ _
      have hbi : b * i ≤ 100000000 := Nat.le_trans (Nat.mul_le_mul hb (show i ≤ 10000 by omega)) (by decide)
      have m1 : cmulB (f / (Int.gcd f p.2 : Int)) p.2 = true := cmulB_of (a := b * i + 1) (b := b) (Nat.lt_of_le_of_lt small (Nat.lt_of_le_of_lt q2 (Nat.pow_lt_pow_right (by decide) (by omega)))) k2 (by omega)
      refine ⟨_, [some (.fz (frRow r)), some (iO (lcS f p)), some (.fz (frD p))], rfl, .inl ?_, lcS f p, _, rfl, lcS_pos q1 k1, ?_, ?_⟩
      · have a1 : atI [PyData.int p.1, .int p.2] 1 = some (.int p.2) := rfl
        simp [B_bottom_of_1, pl, qt, a1, c, cd, m1, hasBor, backAr, Ar.o, lcS]
      · have := lcS_le (p := p) q1 k1
        have z := lcS_pos (p := p) q1 k1
        have e : f * p.2 = ((f.natAbs * p.2.natAbs : Nat) : Int) := by rw [Int.natCast_mul, e1, e2]
        have k : f.natAbs * p.2.natAbs ≤ 2 ^ (b * i) * 2 ^ b := Nat.mul_le_mul q2 (by omega)
        rw [show b * (i + 1) = b * i + b by rw [Nat.mul_succ], Nat.pow_add]
        omega
      · rw [List.take_succ_eq_append_getElem hi, List.foldl_append, ← q3]
        have : r[i] = p := by
          rw [List.getElem?_eq_getElem hi] at hp
          exact Option.some.inj hp
        rw [this]
        rfl)
  rw [List.length_map, Nat.zero_add, List.take_of_length_le (Nat.le_refl _)] at g5
  subst g2
  have g5' : f = lcR r := g5
  subst g5'
  simp [pl, qt, g1, asSs, asS, tgS, wipeE, -List.map_map]
def BotF (F : Fns) (n : Nat) : Prop := ∀ (b : Nat) (r : List Fr), b ≤ 8999 → 2 ^ b ≤ n → (∀ p ∈ r, 0 < p.2 ∧ p.2.natAbs < 2 ^ b) → r.length ≤ 10000 → F "bottom_of" [.fz (frRow r)] = .ok (iO (lcR r)) [some (.fz (frRow r))]
def WholeF (F : Fns) : Prop := ∀ (M : LM) (N B : Nat), Sq N M → N < 1000000 → 0 < B → (∀ r c, r < N → c < N → (fn M r c).natAbs ≤ B) → fct N * B ^ N < 2 ^ 8999 → F "whole_determinant" [.fz (matD M)] = .ok (iO (C N (fn M))) [none]
def LowestF (F : Fns) (n : Nat) : Prop := ∀ a b : Int, 0 < b → b.natAbs < 2 ^ 8999 → b.natAbs < n → F "lowest" [iO a, iO b] = .ok (frO a b) [some (iO a), some (iO b)]
theorem set_self {α : Type} : ∀ {xs : List α} {i : Nat} {x : α}, xs[i]? = some x → xs.set i x = xs
  | y :: xs, 0, x, h => by cases h; rfl
  | y :: xs, i + 1, x, h => by
    rw [List.set_cons_succ, set_self (by simpa using h)]
theorem co_mapA {α : Type} {enc : α → PyData} {g : α → O} {v : Nat} {elt : E} {e : Env} (hv : e[v]? = some none) : ∀ {xs : List α}, (∀ x ∈ xs, ev F false elt (e.set v (some (.fz (enc x)))) = .ok (g x) (e.set v (some (.fz (enc x))))) → co F (.nm v) [v] .no elt (xs.map enc) e = .ok (xs.map g) e
  | [], _ => rfl
  | x :: xs, h => by
    have ih := co_mapA hv (xs := xs) fun d hd => h d (List.mem_cons_of_mem _ hd)
    have h1 := h x List.mem_cons_self
    have w : wipeE e [v] = e := by
      show e.set v none = e
      exact set_self hv
    rw [List.map_cons, co_cons, w]
    simp only [setTg, evC_no, bind_ok_]
    rw [if_pos trivial, h1]
    simp only [bind_ok_]
    have w2 : wipeE (e.set v (some (.fz (enc x)))) [v] = e := by
      show (e.set v _).set v none = e
      rw [List.set_set]
      exact set_self hv
    rw [w2, ih]
    rfl
def intRow (r : List Fr) : List Int := r.map fun p => p.1 * (lcR r / p.2)
def intM (G : List (List Fr)) : LM := G.map intRow
def prodL (xs : List Int) : Int := xs.foldl (fun a b => a * b) 1
def botP (G : List (List Fr)) : Int := prodL (G.map lcR)
/-- what a grid of fractions is: N rows of N, bottoms above 0; tops below 2 ^ a, bottoms below 2 ^ b -/
structure GrOk (N a b : Nat) (G : List (List Fr)) : Prop where
  len : G.length = N
  row : ∀ r ∈ G, r.length = N
  num : ∀ r ∈ G, ∀ p ∈ r, 0 < p.2 ∧ p.2.natAbs < 2 ^ b ∧ p.1.natAbs < 2 ^ a
theorem GrOk.lc {N a b : Nat} {G : List (List Fr)} (h : GrOk N a b G) {r : List Fr} (hr : r ∈ G) : 0 < lcR r ∧ (lcR r).natAbs ≤ 2 ^ (b * N) ∧ ∀ p ∈ r, p.2 ∣ lcR r := by
  have := lcR_ok (r := r) (b := b) fun p hp => ⟨(h.num r hr p hp).1, (h.num r hr p hp).2.1⟩
  rw [h.row r hr] at this
  exact this
theorem GrOk.entry {N a b : Nat} {G : List (List Fr)} (h : GrOk N a b G) {r : List Fr} (hr : r ∈ G) {p : Fr} (hp : p ∈ r) : (lcR r / p.2).natAbs ≤ 2 ^ (b * N) ∧ (p.1 * (lcR r / p.2)).natAbs ≤ 2 ^ (a + b * N) := by
  obtain ⟨k1, k2, k3⟩ := h.lc hr
  obtain ⟨q1, q2, q3⟩ := h.num r hr p hp
  have s : (lcR r / p.2).natAbs ≤ 2 ^ (b * N) := by
    rw [Int.natAbs_ediv_of_dvd (k3 p hp)]
    exact Nat.le_trans (Nat.div_le_self _ _) k2
  refine ⟨s, ?_⟩
  rw [Int.natAbs_mul, Nat.pow_add]
  exact Nat.mul_le_mul (by omega) s
theorem sq_intM {N a b : Nat} {G : List (List Fr)} (h : GrOk N a b G) : Sq N (intM G) := by
  refine ⟨by unfold intM; rw [List.length_map, h.len], fun r hr => ?_⟩
  obtain ⟨r0, h0, rfl⟩ := List.mem_map.mp hr
  unfold intRow
  rw [List.length_map, h.row r0 h0]
theorem fn_bound {N B : Nat} {M : LM} (hM : Sq N M) (h : ∀ r ∈ M, ∀ x ∈ r, x.natAbs ≤ B) {r c : Nat} (hr : r < N) (hc : c < N) : (fn M r c).natAbs ≤ B := by
  have h1 : r < M.length := by rw [hM.1]; exact hr
  have h2 := hM.row hr
  unfold fn
  rw [List.getD_eq_getElem?_getD (l := M), List.getElem?_eq_getElem h1, Option.getD_some] at h2 ⊢
  rw [List.getD_eq_getElem?_getD, List.getElem?_eq_getElem (by omega), Option.getD_some]
  exact h _ (List.getElem_mem h1) _ (List.getElem_mem _)
theorem zip_self {α β γ : Type} (f : α → β) (g : α → γ) (xs : List α) : (xs.map f).zip (xs.map g) = xs.map fun x => (f x, g x) := by
  induction xs with
  | nil => rfl
  | cons x xs ih => rw [List.map_cons, List.map_cons, List.zip_cons_cons, ih]; rfl
theorem det_row {N a b : Nat} {G : List (List Fr)} (h : GrOk N a b G) (hb : b * N ≤ 8990) (ha : a ≤ 100000) (hN : N ≤ 10000) {r : List Fr} (hr : r ∈ G) {i : Nat} (hi : i < N) {bots : PyData} {done : List O} (hd : done.length = i) {bot : Int} (hbot : bot.natAbs ≤ 2 ^ (b * N * i)) :
    exs F n B_determinant_1 [some (.fz (grD G)), some (.fz bots), some (.lst done), some (iO bot), some (.fz (frRow r)), some (iO (lcR r)), none] =
      .ok .nx [some (.fz (grD G)), some (.fz bots), some (.lst (done ++ [.fz (.list (r.map fun p => .int (p.1 * (lcR r / p.2))))])), some (iO (bot * lcR r)), some (.fz (frRow r)), some (iO (lcR r)), none] := by
  obtain ⟨k1, k2, k3⟩ := h.lc hr
  have cc := co_mapA (F := F) (enc := frD) (g := fun p : Fr => iO (p.1 * (lcR r / p.2))) (v := 6) (elt := .bin .mul (.ix (.var 6) (.int 0)) (.bin .fdiv (.var 5) (.ix (.var 6) (.int 1))))
    (e := [some (.fz (grD G)), some (.fz bots), some (.lst done), some (iO bot), some (.fz (frRow r)), some (iO (lcR r)), none]) rfl (xs := r) fun p hp => by
    obtain ⟨q1, q2, q3⟩ := h.num r hr p hp
    obtain ⟨s1, s2⟩ := h.entry hr hp
    have a0 : atI [PyData.int p.1, .int p.2] 0 = some (.int p.1) := rfl
    have a1 : atI [PyData.int p.1, .int p.2] 1 = some (.int p.2) := rfl
    have b1 : b ≤ 8999 := by
      rcases Nat.eq_zero_or_pos N with z | z
      · omega
      · have := Nat.le_mul_of_pos_right b z
        omega
    have cd := cdivB_lit q1 (Nat.lt_of_lt_of_le q2 (Nat.pow_le_pow_right (by decide) b1))
    have m1 : cmulB p.1 (lcR r / p.2) = true := cmulB_of (a := a) (b := b * N + 1) q3 (Nat.lt_of_le_of_lt s1 (Nat.pow_lt_pow_right (by decide) (by omega))) (by omega)
    simp [pl, qt, a0, a1, cd, m1]
  have room : done.length < sizeLine := by unfold sizeLine; omega
  have rm : r.length ≤ sizeLine := by rw [h.row r hr]; unfold sizeLine; omega
  have hNi : b * N * i ≤ 8990 * 10000 := Nat.mul_le_mul hb (by omega)
  have m2 : cmulB bot (lcR r) = true := cmulB_of (a := b * N * i + 1) (b := b * N + 1) (Nat.lt_of_le_of_lt hbot (Nat.pow_lt_pow_right (by decide) (by omega))) (Nat.lt_of_le_of_lt k2 (Nat.pow_lt_pow_right (by decide) (by omega))) (by omega)
  simp [B_determinant_1, wipeE, pl, qt, qts, cc, strRoom, rm, mutO_append room, augO, m2, ers_map2, -List.map_map]
theorem det_ok (hB : BotF F n) (hW : WholeF F) (hL : LowestF F n) {N a b : Nat} {G : List (List Fr)} (h : GrOk N a b G) (hN : N ≤ 1000) (hb : b * N * N ≤ 8990) (ha : a ≤ 100000) (hn : 2 ^ 8999 ≤ n) (hbd : fct N * (2 ^ (a + b * N)) ^ N < 2 ^ 8999) :
    runB F n 1 6 B_determinant [.fz (grD G)] = .ok (frO (C N (fn (intM G))) (botP G)) [some (.fz (grD G))] ∧ 0 < botP G ∧ (botP G).natAbs ≤ 2 ^ 8990 := by
  have hbN : b * N ≤ 8990 := by
    rcases Nat.eq_zero_or_pos N with z | z
    · subst z; omega
    · exact Nat.le_trans (Nat.le_mul_of_pos_right _ z) hb
  have hb1 : N = 0 ∨ b ≤ 8990 := by
    rcases Nat.eq_zero_or_pos N with z | z
    · exact .inl z
    · exact .inr (Nat.le_trans (Nat.le_mul_of_pos_right _ z) hbN)
  have hbots : ∀ r ∈ G, F "bottom_of" [.fz (frRow r)] = .ok (iO (lcR r)) [some (.fz (frRow r))] := fun r hr => by
    have hN0 : N ≠ 0 := by
      intro z
      have := h.len
      rw [z] at this
      rw [List.length_eq_zero_iff.mp this] at hr
      cases hr
    refine hB b r (by omega) (Nat.le_trans (Nat.pow_le_pow_right (by decide) (by omega)) hn) (fun p hp => ⟨(h.num r hr p hp).1, (h.num r hr p hp).2.1⟩) (by rw [h.row r hr]; omega)
  have c1 := co_mapA (F := F) (enc := frRow) (g := fun r => iO (lcR r)) (v := 4) (elt := .call "bottom_of" (.cons .val (.var 4) .nil)) (e := [some (.fz (grD G)), none, none, none, none, none, none]) rfl (xs := G) fun r hr => by
    simp [hbots r hr, hasBor, backAr, Ar.o]
  have zp : (((G.map frRow).zip (G.map fun r => PyData.int (lcR r))).map fun p => PyData.tuple [p.1, p.2]) = G.map fun r => PyData.tuple [frRow r, .int (lcR r)] := by
    rw [zip_self, List.map_map]
    rfl
  obtain ⟨e', g1, done, bot, x4, x5, g2, g3, g4, g5, g6⟩ := fo_inv (F := F) (n := n) (tg := .tp (.nm 4) (.nm 5)) (b := B_determinant_1) (ds := G.map fun r => PyData.tuple [frRow r, .int (lcR r)]) (k := 0)
    (fun i e => ∃ done bot x4 x5, e = [some (.fz (grD G)), some (.fz (.list (G.map fun r => PyData.int (lcR r)))), some (.lst done), some (iO bot), x4, x5, none] ∧ done = (G.take i).map (fun r => .fz (.list (r.map fun p => .int (p.1 * (lcR r / p.2))))) ∧ bot = prodL ((G.take i).map lcR) ∧ 0 < bot ∧ bot.natAbs ≤ 2 ^ (b * N * i))
    ⟨[], 1, none, none, rfl, by simp, by simp [prodL], by decide, by simp⟩ (fun i e d hd hp => by
      obtain ⟨done, bot, x4, x5, rfl, q1, q2, q3, q4⟩ := hp
      rw [Nat.zero_add] at q1 q2 q4 ⊢
      rw [List.getElem?_map] at hd
      obtain ⟨r, hr, rfl⟩ := Option.map_eq_some_iff.mp hd
      have hlen := h.len
      have hi : i < G.length := by
        rcases Nat.lt_or_ge i G.length with z | z
        · exact z
        · rw [List.getElem?_eq_none z] at hr; cases hr
      have hrG : r ∈ G := List.mem_of_getElem? hr
      have er : G[i] = r := by
        rw [List.getElem?_eq_getElem hi] at hr
        exact Option.some.inj hr
      obtain ⟨k1, k2, k3⟩ := h.lc hrG
      have t := det_row (F := F) (n := n) h hbN ha (by omega) hrG (i := i) (by omega) (bots := .list (G.map fun r => PyData.int (lcR r))) (done := done) (by rw [q1, List.length_map, List.length_take]; omega) q4
      refine ⟨_, _, rfl, .inl t, _, _, _, _, rfl, ?_, ?_, Int.mul_pos q3 k1, ?_⟩
      · rw [List.take_succ_eq_append_getElem hi, List.map_append, q1, er]
        rfl
      · rw [List.take_succ_eq_append_getElem hi, List.map_append, q2, er]
        unfold prodL
        rw [List.foldl_append]
        rfl
      · rw [Int.natAbs_mul, show b * N * (i + 1) = b * N * i + b * N by rw [Nat.mul_succ], Nat.pow_add]
        exact Nat.mul_le_mul q4 k2)
  have hlen := h.len
  rw [List.length_map, Nat.zero_add, List.take_of_length_le (Nat.le_refl _)] at g3 g4
  rw [List.length_map, Nat.zero_add, hlen] at g6
  subst g2
  have ebot : bot = botP G := g4
  subst ebot
  have fin : (.list (ers done) : PyData) = matD (intM G) := by
    rw [g3, ers_map2]
    unfold matD intM
    rw [List.map_map]
    congr 1
    refine List.map_congr_left fun r _ => ?_
    show er (.fz _) = _
    rw [er_fz]
    show _ = rowD (intRow r)
    unfold rowD intRow
    rw [List.map_map]
    rfl
  have wd := hW (intM G) N (2 ^ (a + b * N)) (sq_intM h) (by omega) (Nat.pow_pos (by decide)) (fun r c hr hc => fn_bound (sq_intM h) (fun r hr x hx => by
    obtain ⟨r0, h0, rfl⟩ := List.mem_map.mp hr
    obtain ⟨p, hp, rfl⟩ := List.mem_map.mp hx
    exact (h.entry h0 hp).2) hr hc) hbd
  have bsm : (botP G).natAbs ≤ 2 ^ 8990 := Nat.le_trans g6 (Nat.pow_le_pow_right (by decide) hb)
  have lt : (botP G).natAbs < 2 ^ 8999 := Nat.lt_of_le_of_lt bsm (Nat.pow_lt_pow_right (by decide) (by decide))
  have lw := hL (C N (fn (intM G))) (botP G) g5 lt (Nat.lt_of_lt_of_le lt hn)
  refine ⟨?_, g5, bsm⟩
  have rm : G.length ≤ sizeLine := by rw [hlen]; unfold sizeLine; omega
  have r1 : 0 ≤ sizeLine := by decide
  unfold runB B_determinant
  simp [wipeE, pl, qt, qts, c1, zp, g1, fin, wd, lw, rm, r1, hasBor, backAr, Ar.o, strRoom, asSs, asS, tgS, ers_map2, -List.map_map]
end
end Rim
namespace Rim
open PySem PySem.Spec PyProof.Rows L2 Dt

/-! ### fractions in lowest terms, as numbers -/
def nm (t b : Int) : Fr := (t / Int.gcd t b, b / Int.gcd t b)
/-- both parts below 2 ^ a -/
def Small (a : Nat) (p : Fr) : Prop := p.1.natAbs < 2 ^ a ∧ p.2.natAbs < 2 ^ a
def Lw (p : Fr) : Prop := Low p.1 p.2
theorem nm_lw {t b : Int} (h : 0 < b) : Lw (nm t b) := low_low h
theorem nm_small {t b : Int} {a : Nat} (h1 : t.natAbs < 2 ^ a) (h2 : b.natAbs < 2 ^ a) : Small a (nm t b) := by
  have s := low_small (a := t) (b := b)
  exact ⟨by show (t / Int.gcd t b).natAbs < _; omega, by show (b / Int.gcd t b).natAbs < _; omega⟩
theorem Small.up {a b : Nat} {p : Fr} (h : Small a p) (k : a ≤ b) : Small b p := by
  have := Nat.pow_le_pow_right (show 2 > 0 by omega) k
  exact ⟨by have := h.1; omega, by have := h.2; omega⟩
theorem mul_sm {x y : Int} {a b : Nat} (h : x.natAbs < 2 ^ a) (k : y.natAbs < 2 ^ b) : (x * y).natAbs < 2 ^ (a + b) := by
  rw [Int.natAbs_mul, Nat.pow_add]
  exact Nat.mul_lt_mul'' h k
theorem add_sm {x y : Int} {a : Nat} (h : x.natAbs < 2 ^ a) (k : y.natAbs < 2 ^ a) : (x + y).natAbs < 2 ^ (a + 1) := by
  have := Int.natAbs_add_le x y
  rw [Nat.pow_succ]
  omega
theorem sub_sm {x y : Int} {a : Nat} (h : x.natAbs < 2 ^ a) (k : y.natAbs < 2 ^ a) : (x - y).natAbs < 2 ^ (a + 1) := by
  have := Int.natAbs_sub_le x y
  rw [Nat.pow_succ]
  omega
def plusP (p q : Fr) : Fr := nm (p.1 * q.2 + q.1 * p.2) (p.2 * q.2)
def lessP (p q : Fr) : Fr := nm (p.1 * q.2 - q.1 * p.2) (p.2 * q.2)
def timesP (p q : Fr) : Fr := nm (p.1 * q.1) (p.2 * q.2)
theorem pos_mul {p q : Fr} (h : Lw p) (k : Lw q) : 0 < p.2 * q.2 := Int.mul_pos h.1 k.1
theorem plus_small {p q : Fr} {a b : Nat} (h : Small a p) (k : Small b q) : Small (a + b + 1) (plusP p q) := by
  have e : b + a = a + b := Nat.add_comm _ _
  refine nm_small (add_sm (mul_sm h.1 k.2) ?_) ?_
  · have := mul_sm k.1 h.2
    rw [e] at this
    exact this
  · have := mul_sm h.2 k.2
    rw [Nat.pow_succ]
    omega
theorem less_small {p q : Fr} {a b : Nat} (h : Small a p) (k : Small b q) : Small (a + b + 1) (lessP p q) := by
  have e : b + a = a + b := Nat.add_comm _ _
  refine nm_small (sub_sm (mul_sm h.1 k.2) ?_) ?_
  · have := mul_sm k.1 h.2
    rw [e] at this
    exact this
  · have := mul_sm h.2 k.2
    rw [Nat.pow_succ]
    omega
theorem times_small {p q : Fr} {a b : Nat} (h : Small a p) (k : Small b q) : Small (a + b) (timesP p q) := nm_small (mul_sm h.1 k.1) (mul_sm h.2 k.2)
theorem times_lw {p q : Fr} (h : Lw p) (k : Lw q) : Lw (timesP p q) := nm_lw (pos_mul h k)
theorem lt_pow {x m a : Nat} (h : x < 2 ^ a) (k : a ≤ m) : x < 2 ^ m := Nat.lt_of_lt_of_le h (Nat.pow_le_pow_right (by omega) k)
theorem at2 {p : Fr} : atI [PyData.int p.1, .int p.2] 0 = some (.int p.1) ∧ atI [PyData.int p.1, .int p.2] 1 = some (.int p.2) := ⟨rfl, rfl⟩
theorem room8 {m : Nat} (h : m ≤ 1000000) : strRoom m = true := by
  have e2 : sizeLine = 16777216 := by decide
  exact Nat.ble_eq_true_of_le (by omega)
/-- p is x by y, in lowest terms -/
def Is (p : Fr) (x y : Int) : Prop := Lw p ∧ 0 < y ∧ p.1 * y = x * p.2
section
variable {p q : Fr} {x y u v c : Int}
theorem Is.nm (h : 0 < y) : Is (nm x y) x y := ⟨nm_lw h, h, low_cross⟩
theorem Is.eq (h : Is p x y) : p = Rim.nm x y := by
  have k := Is.nm (x := x) h.2.1
  have e : p.1 * (Rim.nm x y).2 = (Rim.nm x y).1 * p.2 := by
    have h1 := h.2.2
    have h2 := k.2.2
    have hy : y ≠ 0 := by have := h.2.1; omega
    refine Int.eq_of_mul_eq_mul_right hy ?_
    calc p.1 * (Rim.nm x y).2 * y = (p.1 * y) * (Rim.nm x y).2 := by ac_rfl
      _ = (x * p.2) * (Rim.nm x y).2 := by rw [h1]
      _ = (x * (Rim.nm x y).2) * p.2 := by ac_rfl
      _ = ((Rim.nm x y).1 * y) * p.2 := by rw [h2]
      _ = (Rim.nm x y).1 * p.2 * y := by ac_rfl
  obtain ⟨e1, e2⟩ := low_uni h.1 k.1 e
  exact Prod.ext e1 e2
theorem Is.scale (hc : 0 < c) (hy : 0 < y) (h : Is p (c * x) (c * y)) : Is p x y := by
  refine ⟨h.1, hy, Int.eq_of_mul_eq_mul_left (show c ≠ 0 by omega) ?_⟩
  have := h.2.2
  grind
theorem Is.plus (h : Is p x y) (k : Is q u v) : Is (plusP p q) (x * v + u * y) (y * v) := by
  have z := Is.nm (x := p.1 * q.2 + q.1 * p.2) (pos_mul h.1 k.1)
  refine ⟨z.1, Int.mul_pos h.2.1 k.2.1, ?_⟩
  have h1 := h.2.2
  have h2 := k.2.2
  have z2 := z.2.2
  have hpq := pos_mul h.1 k.1
  show (plusP p q).1 * _ = _ * (plusP p q).2
  change (plusP p q).1 * (p.2 * q.2) = _ * (plusP p q).2 at z2
  generalize plusP p q = s at z2
  refine Int.eq_of_mul_eq_mul_right (show p.2 * q.2 ≠ 0 by omega) ?_
  have e : (p.1 * q.2 + q.1 * p.2) * (y * v) = (x * v + u * y) * (p.2 * q.2) := by grind
  calc s.1 * (y * v) * (p.2 * q.2) = (s.1 * (p.2 * q.2)) * (y * v) := by ac_rfl
    _ = ((p.1 * q.2 + q.1 * p.2) * s.2) * (y * v) := by rw [z2]
    _ = ((p.1 * q.2 + q.1 * p.2) * (y * v)) * s.2 := by ac_rfl
    _ = (x * v + u * y) * s.2 * (p.2 * q.2) := by rw [e]; ac_rfl
theorem Is.less (h : Is p x y) (k : Is q u v) : Is (lessP p q) (x * v - u * y) (y * v) := by
  have z := Is.nm (x := p.1 * q.2 - q.1 * p.2) (pos_mul h.1 k.1)
  refine ⟨z.1, Int.mul_pos h.2.1 k.2.1, ?_⟩
  have h1 := h.2.2
  have h2 := k.2.2
  have z2 := z.2.2
  have hpq := pos_mul h.1 k.1
  show (lessP p q).1 * _ = _ * (lessP p q).2
  change (lessP p q).1 * (p.2 * q.2) = _ * (lessP p q).2 at z2
  generalize lessP p q = s at z2
  refine Int.eq_of_mul_eq_mul_right (show p.2 * q.2 ≠ 0 by omega) ?_
  have e : (p.1 * q.2 - q.1 * p.2) * (y * v) = (x * v - u * y) * (p.2 * q.2) := by grind
  calc s.1 * (y * v) * (p.2 * q.2) = (s.1 * (p.2 * q.2)) * (y * v) := by ac_rfl
    _ = ((p.1 * q.2 - q.1 * p.2) * s.2) * (y * v) := by rw [z2]
    _ = ((p.1 * q.2 - q.1 * p.2) * (y * v)) * s.2 := by ac_rfl
    _ = (x * v - u * y) * s.2 * (p.2 * q.2) := by rw [e]; ac_rfl
theorem Is.times (h : Is p x y) (k : Is q u v) : Is (timesP p q) (x * u) (y * v) := by
  have z := Is.nm (x := p.1 * q.1) (pos_mul h.1 k.1)
  refine ⟨z.1, Int.mul_pos h.2.1 k.2.1, ?_⟩
  have h1 := h.2.2
  have h2 := k.2.2
  have z2 := z.2.2
  have hpq := pos_mul h.1 k.1
  show (timesP p q).1 * _ = _ * (timesP p q).2
  change (timesP p q).1 * (p.2 * q.2) = _ * (timesP p q).2 at z2
  generalize timesP p q = s at z2
  refine Int.eq_of_mul_eq_mul_right (show p.2 * q.2 ≠ 0 by omega) ?_
  have e : (p.1 * q.1) * (y * v) = (x * u) * (p.2 * q.2) := by grind
  calc s.1 * (y * v) * (p.2 * q.2) = (s.1 * (p.2 * q.2)) * (y * v) := by ac_rfl
    _ = ((p.1 * q.1) * s.2) * (y * v) := by rw [z2]
    _ = ((p.1 * q.1) * (y * v)) * s.2 := by ac_rfl
    _ = (x * u) * s.2 * (p.2 * q.2) := by rw [e]; ac_rfl
/-- over one bottom -/
theorem Is.plus1 (h : Is p x y) (k : Is q u y) : Is (plusP p q) (x + u) y := by
  have := h.plus k
  rw [show x * y + u * y = y * (x + u) by grind] at this
  exact this.scale h.2.1 h.2.1
theorem Is.less1 (h : Is p x y) (k : Is q u y) : Is (lessP p q) (x - u) y := by
  have := h.less k
  rw [show x * y - u * y = y * (x - u) by grind] at this
  exact this.scale h.2.1 h.2.1
theorem Is.sign (h : Is p x y) {s : Int} (hs : s.natAbs = 1) : Is (p.1 * s, p.2) (s * x) y := by
  refine ⟨⟨h.1.1, ?_⟩, h.2.1, ?_⟩
  · show Int.gcd (p.1 * s) p.2 = 1
    have h1 : Int.gcd p.1 p.2 = 1 := h.1.2
    unfold Int.gcd at h1 ⊢
    rw [Int.natAbs_mul, hs, Nat.mul_one]
    exact h1
  · show p.1 * s * y = s * x * p.2
    have := h.2.2
    grind
theorem Is.small (h : Is p x y) {a : Nat} (h1 : x.natAbs < 2 ^ a) (h2 : y.natAbs < 2 ^ a) : Small a p := by
  rw [h.eq]
  exact nm_small h1 h2
theorem Is.self (h : Lw p) : Is p p.1 p.2 := ⟨h, h.1, rfl⟩
/-- over a bottom that its own divides -/
theorem Is.over (h : Lw p) {L : Int} (hL : 0 < L) (d : p.2 ∣ L) : Is p (p.1 * (L / p.2)) L := by
  refine ⟨h, hL, ?_⟩
  rw [Int.mul_assoc, Int.ediv_mul_cancel d]
end
theorem is_zero {y : Int} (h : 0 < y) : Is (0, 1) 0 y := ⟨⟨by decide, by decide⟩, h, by simp⟩
theorem lw01 : Lw (0, 1) := ⟨by decide, by decide⟩
theorem lw11 : Lw (1, 1) := ⟨by decide, by decide⟩
theorem frO_nm {a b : Int} : frO a b = .fz (frD (nm a b)) := rfl
@[simp] theorem prodL_nil : prodL [] = 1 := rfl
theorem foldl_mul : ∀ (xs : List Int) (a : Int), xs.foldl (fun a b => a * b) a = a * prodL xs
  | [], a => by simp [prodL]
  | x :: xs, a => by
    unfold prodL
    rw [List.foldl_cons, foldl_mul xs, List.foldl_cons, foldl_mul xs (1 * x)]
    rw [Int.one_mul, Int.mul_assoc]
@[simp] theorem prodL_cons {x : Int} {xs : List Int} : prodL (x :: xs) = x * prodL xs := by
  show (x :: xs).foldl (fun a b => a * b) 1 = _
  rw [List.foldl_cons, foldl_mul, Int.one_mul]
theorem prodL_pos : ∀ {xs : List Int}, (∀ x ∈ xs, 0 < x) → 0 < prodL xs
  | [], _ => by decide
  | x :: xs, h => by
    rw [prodL_cons]
    exact Int.mul_pos (h x (by simp)) (prodL_pos fun y hy => h y (by simp [hy]))
theorem prodL_small {c : Nat} : ∀ {xs : List Int}, (∀ x ∈ xs, x.natAbs ≤ 2 ^ c) → (prodL xs).natAbs ≤ 2 ^ (c * xs.length)
  | [], _ => by simp
  | x :: xs, h => by
    rw [prodL_cons, Int.natAbs_mul, List.length_cons, Nat.mul_succ, Nat.add_comm, Nat.pow_add]
    exact Nat.mul_le_mul (h x (by simp)) (prodL_small fun y hy => h y (by simp [hy]))
theorem shp_row {r : List Fr} {m : Nat} : shp (m + 2) (frRow r) = true := by
  simp
theorem shp_gr {G : List (List Fr)} {m : Nat} : shp (m + 3) (grD G) = true := by
  simp
/-! ### grids that are drawn -/
def NumF (F : Fns) : Prop := ∀ r kind : Int, ∃ p r', Lw p ∧ Small 40 p ∧ F "_law_number_of" [.lst [iO r], iO kind] = .ok (.fz (frD p)) [some (.lst [iO r']), some (iO kind)]
theorem co_len {F : Fns} {v : Nat} {elt : E} : ∀ {ds : List PyData} {e e' : Env} {os : List O}, co F (.nm v) [v] .no elt ds e = .ok os e' → os.length = ds.length
  | [], e, e', os, h => by cases h; rfl
  | d :: ds, e, e', os, h => by
    rw [co_cons] at h
    simp only [setTg, evC_no, bind_ok_, if_true] at h
    obtain ⟨o, e1, h1, h2⟩ := bind_ok h
    obtain ⟨os2, e3, h3, h4⟩ := bind_ok h2
    cases h4
    rw [List.length_cons, List.length_cons, co_len h3]
theorem get_set_ne {α : Type} {xs : List α} {i j : Nat} {y : α} (h : i ≠ j) : (xs.set i y)[j]? = xs[j]? := List.getElem?_set_ne h
theorem get_set_eq {xs : Env} {i : Nat} {x y : Option O} (h : xs[i]? = some x) : (xs.set i y)[i]? = some y := by
  rw [List.getElem?_set_self]
  rcases Nat.lt_or_ge i xs.length with z | z
  · exact z
  · rw [List.getElem?_eq_none z] at h
    cases h
theorem set_four {xs : Env} {i j : Nat} {a b d : Option O} (h : i ≠ j) (hj : xs[j]? = some none) : (((xs.set i a).set j d).set i b).set j none = xs.set i b := by
  rw [List.set_comm a d h, List.set_set, List.set_comm b none h, List.set_set, set_self hj]
section
variable {F : Fns} {sr sk sn vj vi : Nat} {e : Env} {kind : Int} {N : Nat}
/-- a row's walk: where the rest is drawn from, over and over -/
theorem draw_row (hN : NumF F) (hn : N ≤ 1000000) (d1 : sr ≠ sk) (d2 : sr ≠ sn) (d3 : sr ≠ vj) (d4 : sk ≠ vj) (d5 : sn ≠ vj) {r : Int} (h1 : e[sr]? = some (some (.lst [iO r]))) (h2 : e[sk]? = some (some (iO kind))) (h3 : e[sn]? = some (some (iO N))) (h4 : e[vj]? = some none) :
    ∃ (row : List Fr) (r' : Int), row.length = N ∧ (∀ p ∈ row, Lw p ∧ Small 40 p) ∧ ev F false (.comp (.call "_law_number_of" (.cons (.lend sr) (.var sr) (.cons .val (.var sk) .nil))) (.nm vj) (.rng1 (.var sn)) .no [vj]) e = .ok (.lst (row.map fun p => .fz (frD p))) (e.set sr (some (.lst [iO r']))) := by
  obtain ⟨os, e2, c1, row, r2, rfl, hos, hrow⟩ := co_inv (F := F) (v := vj) (elt := .call "_law_number_of" (.cons (.lend sr) (.var sr) (.cons .val (.var sk) .nil)))
    (fun acc e' => ∃ (row : List Fr) (r2 : Int), e' = e.set sr (some (.lst [iO r2])) ∧ acc = row.map (fun p => O.fz (frD p)) ∧ ∀ p ∈ row, Lw p ∧ Small 40 p)
    (ds := rngD 0 N) (acc := []) (e := e) ⟨[], r, (set_self h1).symm, rfl, fun p z => by cases z⟩ (fun acc e' d hd hp => by
      obtain ⟨row, r2, rfl, rfl, hrow⟩ := hp
      obtain ⟨p, r3, lp, sp, hn1⟩ := hN r2 kind
      refine ⟨.fz (frD p), ((e.set sr (some (.lst [iO r2]))).set vj (some (.fz d))).set sr (some (.lst [iO r3])), ?_, row ++ [p], r3, ?_, by simp, fun q hq => (List.mem_append.mp hq).elim (hrow q) fun z => by rw [List.mem_singleton.mp z]; exact ⟨lp, sp⟩⟩
      · have g1 : ((e.set sr (some (O.lst [iO r2]))).set vj (some (.fz d)))[sr]? = some (some (.lst [iO r2])) := by rw [get_set_ne (Ne.symm d3), get_set_eq h1]
        have g2 : (((e.set sr (some (O.lst [iO r2]))).set vj (some (.fz d))).set sr none)[sk]? = some (some (iO kind)) := by rw [get_set_ne d1, get_set_ne (Ne.symm d4), get_set_ne d1, h2]
        simp [g1, g2, pl, qt, hasBor, backAr, Ar.o, hn1]
      · exact set_four d3 h4)
  rw [List.nil_append] at hos
  subst hos
  have z := co_len c1
  rw [rngD_len, List.length_map] at z
  refine ⟨row, r2, z, hrow, ?_⟩
  have rk : rngOk (N : Int) = true := Nat.ble_eq_true_of_le (by omega)
  have rm : strRoom row.length = true := room8 (by omega)
  have w : wipeE e [vj] = e := by
    show e.set vj none = e
    exact set_self h4
  rw [ev_comp, evIt_rng1, ev_var, h3]
  simp only [isFz_fz, Bool.or_true, if_true, bind_ok_, intOf_, rk, Int.toNat_natCast, w, c1, calm_ok_, List.length_map, rm]
/-- a grid's -/
theorem draw_grid (hN : NumF F) (hn : N ≤ 1000000) {fr : Bool} (d1 : sr ≠ sk) (d2 : sr ≠ sn) (d3 : sr ≠ vj) (d4 : sk ≠ vj) (d5 : sn ≠ vj) (d6 : sr ≠ vi) (d7 : sk ≠ vi) (d8 : sn ≠ vi) (d9 : vi ≠ vj) {r : Int} (h1 : e[sr]? = some (some (.lst [iO r]))) (h2 : e[sk]? = some (some (iO kind))) (h3 : e[sn]? = some (some (iO N))) (h4 : e[vj]? = some none) (h5 : e[vi]? = some none) :
    ∃ (G : List (List Fr)) (r' : Int), G.length = N ∧ (∀ row ∈ G, row.length = N ∧ ∀ p ∈ row, Lw p ∧ Small 40 p) ∧
      ev F false (.comp (if fr then .frz (.comp (.call "_law_number_of" (.cons (.lend sr) (.var sr) (.cons .val (.var sk) .nil))) (.nm vj) (.rng1 (.var sn)) .no [vj]) else .comp (.call "_law_number_of" (.cons (.lend sr) (.var sr) (.cons .val (.var sk) .nil))) (.nm vj) (.rng1 (.var sn)) .no [vj]) (.nm vi) (.rng1 (.var sn)) .no [vi]) e =
        .ok (.lst (G.map fun row => if fr then .fz (frRow row) else .lst (row.map fun p => .fz (frD p)))) (e.set sr (some (.lst [iO r']))) := by
  obtain ⟨os, e2, c1, G, r2, rfl, hos, hG⟩ := co_inv (F := F) (v := vi) (elt := if fr then .frz (.comp (.call "_law_number_of" (.cons (.lend sr) (.var sr) (.cons .val (.var sk) .nil))) (.nm vj) (.rng1 (.var sn)) .no [vj]) else .comp (.call "_law_number_of" (.cons (.lend sr) (.var sr) (.cons .val (.var sk) .nil))) (.nm vj) (.rng1 (.var sn)) .no [vj])
    (fun acc e' => ∃ (G : List (List Fr)) (r2 : Int), e' = e.set sr (some (.lst [iO r2])) ∧ acc = G.map (fun row => if fr then .fz (frRow row) else .lst (row.map fun p => .fz (frD p))) ∧ ∀ row ∈ G, row.length = N ∧ ∀ p ∈ row, Lw p ∧ Small 40 p)
    (ds := rngD 0 N) (acc := []) (e := e) ⟨[], r, (set_self h1).symm, rfl, fun p z => by cases z⟩ (fun acc e' d hd hp => by
      obtain ⟨G, r2, rfl, rfl, hG⟩ := hp
      obtain ⟨row, r3, hl, hrow, hc⟩ := draw_row (F := F) (sr := sr) (sk := sk) (sn := sn) (vj := vj) (e := (e.set sr (some (.lst [iO r2]))).set vi (some (.fz d))) (kind := kind) (N := N) hN hn d1 d2 d3 d4 d5 (r := r2) (by rw [get_set_ne (Ne.symm d6), get_set_eq h1]) (by rw [get_set_ne (Ne.symm d7), get_set_ne d1, h2]) (by rw [get_set_ne (Ne.symm d8), get_set_ne d2, h3]) (by rw [get_set_ne d9, get_set_ne d3, h4])
      refine ⟨if fr then .fz (frRow row) else .lst (row.map fun p => .fz (frD p)), ((e.set sr (some (.lst [iO r2]))).set vi (some (.fz d))).set sr (some (.lst [iO r3])), ?_, G ++ [row], r3, ?_, by simp, fun q hq => (List.mem_append.mp hq).elim (hG q) fun z => by rw [List.mem_singleton.mp z]; exact ⟨hl, hrow⟩⟩
      · cases fr with
        | false => exact hc
        | true =>
          show ev F false (.frz _) _ = _
          rw [ev_frz, hc, bind_ok_, er_lst, ers_map2]
          simp
      · exact set_four d6 h5)
  rw [List.nil_append] at hos
  subst hos
  have z := co_len c1
  rw [rngD_len, List.length_map] at z
  refine ⟨G, r2, z, hG, ?_⟩
  have rk : rngOk (N : Int) = true := Nat.ble_eq_true_of_le (by omega)
  have rm : strRoom G.length = true := room8 (by omega)
  have w : wipeE e [vi] = e := by
    show e.set vi none = e
    exact set_self h5
  rw [ev_comp, evIt_rng1, ev_var, h3]
  simp only [isFz_fz, Bool.or_true, if_true, bind_ok_, intOf_, rk, Int.toNat_natCast, w, c1, calm_ok_, List.length_map, rm]
end
end Rim
namespace Rim
open PySem PySem.Spec PyProof.Rows L2
/-! ### runs, from the goal back -/
section
variable {α β : Type} {F : Fns} {n m : Nat} {e e1 e2 : Env} {Q : α → Env → Prop} {S : Fl → Env → Prop}
def Ok (r : Rs α) (Q : α → Env → Prop) : Prop := ∃ a e, r = .ok a e ∧ Q a e
theorem ok_ok {a : α} (h : Q a e) : Ok (.ok a e) Q := ⟨a, e, rfl, h⟩
@[simp] theorem ok_iff {a : α} : Ok (.ok a e) Q ↔ Q a e := ⟨fun ⟨_, _, h, q⟩ => by cases h; exact q, ok_ok⟩
theorem ok_eq {r : Rs α} {a : α} (h : r = .ok a e) (q : Q a e) : Ok r Q := ⟨a, e, h, q⟩
theorem ok_bind {r : Rs β} {f : β → Env → Rs α} (h : Ok r fun a e => Ok (f a e) Q) : Ok (r.bind f) Q := by
  obtain ⟨a, e, rfl, h⟩ := h
  exact h
theorem Ok.mono {r : Rs α} {Q' : α → Env → Prop} (h : Ok r Q) (k : ∀ a e, Q a e → Q' a e) : Ok r Q' := by
  obtain ⟨a, e, h1, h2⟩ := h
  exact ⟨a, e, h1, k a e h2⟩
theorem ok_thn {go : Env → Rs Fl} {r : Rs Fl} (h : Ok r fun f e => match f with | .nx => Ok (go e) S | f => S f e) : Ok (thn2 go r) S := by
  obtain ⟨a, e, rfl, h⟩ := h
  cases a with
  | nx => exact h
  | bk => exact ⟨_, _, rfl, h⟩
  | ct => exact ⟨_, _, rfl, h⟩
  | rt o => exact ⟨_, _, rfl, h⟩
theorem ok_fo {tg : Tg} {b : Ss} {ds : List PyData} (P : Nat → Env → Prop) (h0 : P 0 e)
    (hs : ∀ i e d, ds[i]? = some d → P i e → ∃ e1, setTg tg d e = some e1 ∧ Ok (exs F n b e1) fun f e2 => match f with | .nx => P (i + 1) e2 | .ct => P (i + 1) e2 | _ => False)
    (hq : ∀ e, P ds.length e → S .nx e) : Ok (fo F n tg b ds e) S := by
  obtain ⟨e', g, p⟩ := fo_inv (F := F) (n := n) (tg := tg) (b := b) P (ds := ds) (k := 0) h0 fun i e d hd hp => by
    rw [Nat.zero_add] at hp ⊢
    obtain ⟨e1, h1, f, e2, h2, h3⟩ := hs i e d hd hp
    cases f with
    | nx => exact ⟨e1, e2, h1, .inl h2, h3⟩
    | ct => exact ⟨e1, e2, h1, .inr h2, h3⟩
    | bk => exact h3.elim
    | rt o => exact h3.elim
  rw [Nat.zero_add] at p
  exact ⟨_, _, g, hq e' p⟩
/-- a walk that may end ahead of time -/
theorem ok_foX {tg : Tg} {b : Ss} : ∀ {ds : List PyData} {e : Env} (P : Nat → Env → Prop), P 0 e →
    (∀ i e d, ds[i]? = some d → P i e → ∃ e1, setTg tg d e = some e1 ∧ Ok (exs F n b e1) fun f e2 => match f with | .nx => P (i + 1) e2 | .ct => P (i + 1) e2 | .bk => S .nx e2 | .rt o => S (.rt o) e2) →
    (∀ e, P ds.length e → S .nx e) → Ok (fo F n tg b ds e) S
  | [], e, P, h0, _, hq => ⟨_, _, rfl, hq e h0⟩
  | d :: ds, e, P, h0, hs, hq => by
    obtain ⟨e1, h1, f, e2, h2, h3⟩ := hs 0 e d rfl h0
    have ih := fun p => ok_foX (ds := ds) (e := e2) (fun i e => P (i + 1) e) p (fun i e d hd hp => hs (i + 1) e d hd hp) (fun e hp => hq e hp)
    have g : fo F n tg b (d :: ds) e = aft (fo F n tg b ds) (.ok f e2) := by rw [fo_cons, h1]; simp only; rw [h2]
    rw [g]
    cases f with
    | nx => exact ih h3
    | ct => exact ih h3
    | bk => exact ⟨_, _, rfl, h3⟩
    | rt o => exact ⟨_, _, rfl, h3⟩
theorem ok_wh {c : E} {b : Ss} (P : Nat → Env → Prop) : ∀ {m : Nat} {e : Env} (k : Nat), k < m → P k e →
    (∀ k e, k < m → P k e → Ok ((ev F false c e).bind fun x e1 => boolOf x e1) fun r e1 => match r with
      | true => Ok (exs F n b e1) fun f e2 => match f with | .nx => ∃ k', k' < k ∧ P k' e2 | .ct => ∃ k', k' < k ∧ P k' e2 | .bk => S .nx e2 | .rt o => S (.rt o) e2
      | false => S .nx e1) → Ok (wh F n c b m e) S
  | 0, e, k, hk, _, _ => absurd hk (Nat.not_lt_zero k)
  | m + 1, e, k, hk, hp, hs => by
    obtain ⟨r, e1, h1, h2⟩ := hs k e hk hp
    cases r with
    | false =>
      have g : wh F n c b (m + 1) e = .ok .nx e1 := by rw [wh_succ, h1]; rfl
      rw [g]
      exact ⟨_, _, rfl, h2⟩
    | true =>
      obtain ⟨f, e2, h3, h4⟩ := h2
      have g : wh F n c b (m + 1) e = aft (wh F n c b m) (.ok f e2) := by
        rw [wh_succ, h1]
        show aft (wh F n c b m) (exs F n b e1) = _
        rw [h3]
      rw [g]
      have ih := fun k' (q : k' < k) p => ok_wh P (m := m) (e := e2) k' (by omega) p fun k e hk hp => hs k e (by omega) hp
      cases f with
      | nx => obtain ⟨k', q, p⟩ := h4; exact ih k' q p
      | ct => obtain ⟨k', q, p⟩ := h4; exact ih k' q p
      | bk => exact ⟨_, _, rfl, h4⟩
      | rt o => exact ⟨_, _, rfl, h4⟩
def FOk (r : FR) (Q : O → Env → Prop) : Prop := ∃ o ps, r = .ok o ps ∧ Q o ps
theorem fok_runB {np nl : Nat} {b : Ss} {os : List O} {Q : O → Env → Prop} (h : Ok (exs F n b (os.map some ++ List.replicate nl none)) fun f e => match f with
    | .rt o => Q o ((wipeE e (asSs b)).take np)
    | .nx => Q (.fz .none) ((wipeE e (asSs b)).take np)
    | _ => False) : FOk (runB F n np nl b os) Q := by
  obtain ⟨f, e, h1, h2⟩ := h
  unfold runB
  rw [h1]
  cases f with
  | rt o => exact ⟨_, _, rfl, h2⟩
  | nx => exact ⟨_, _, rfl, h2⟩
  | bk => exact h2.elim
  | ct => exact h2.elim
theorem fok_run {T : List Df} {k : Nat} {d : Df} {os : List O} {Q : O → Env → Prop} (nd : (T.map (·.name)).Nodup) (hd : d ∈ T) (h : os.length = d.ps.length)
    (q : Ok (exs (run T n k) n d.body (os.map some ++ List.replicate (d.N.length - d.ps.length) none)) fun f e => match f with
    | .rt o => Q o ((wipeE e (asSs d.body)).take d.ps.length)
    | .nx => Q (.fz .none) ((wipeE e (asSs d.body)).take d.ps.length)
    | _ => False) : FOk (run T n (k + 1) d.name os) Q := by
  rw [run_b nd hd h]
  exact fok_runB q
/-! ### comprehensions -/
theorem ok_co {v : Nat} {elt : E} (P : List O → Env → Prop) {ds : List PyData} {e : Env} {Q : List O → Env → Prop} (h0 : P [] e)
    (hs : ∀ acc e d, ds[acc.length]? = some d → P acc e → Ok (ev F false elt (e.set v (some (.fz d)))) fun o e2 => P (acc ++ [o]) (e2.set v none)) (hv : ∀ acc e, P acc e → e.set v none = e)
    (hq : ∀ acc e, acc.length = ds.length → P acc e → Q acc e) : Ok (co F (.nm v) [v] .no elt ds e) Q := by
  have main : ∀ (ds2 : List PyData) (acc : List O) (e : Env), ds = ds.take acc.length ++ ds2 → acc.length ≤ ds.length → P acc e → ∃ os e', co F (.nm v) [v] .no elt ds2 e = .ok os e' ∧ P (acc ++ os) e' ∧ (acc ++ os).length = ds.length := by
    intro ds2
    induction ds2 with
    | nil =>
      intro acc e hd hl hp
      refine ⟨[], e, rfl, by rw [List.append_nil]; exact hp, ?_⟩
      rw [List.append_nil] at hd ⊢
      have := congrArg List.length hd
      rw [List.length_take] at this
      omega
    | cons d ds2 ih =>
      intro acc e hd hl hp
      have hlt : (ds.take acc.length).length = acc.length := by rw [List.length_take]; omega
      have hg : ds[acc.length]? = some d := by
        rw [hd, List.getElem?_append_right (by omega), hlt, Nat.sub_self]
        rfl
      obtain ⟨o, e2, h1, h2⟩ := hs acc e d hg hp
      have hlt2 : acc.length < ds.length := by
        rcases Nat.lt_or_ge acc.length ds.length with z | z
        · exact z
        · rw [List.getElem?_eq_none z] at hg; cases hg
      obtain ⟨os, e', h3, h4, h5⟩ := ih (acc ++ [o]) (e2.set v none) (by
        rw [List.length_append, List.length_singleton, List.take_add_one, hg]
        simpa using hd) (by rw [List.length_append, List.length_singleton]; omega) h2
      refine ⟨o :: os, e', ?_, by simpa using h4, by simpa using h5⟩
      rw [co_cons]
      simp only [setTg, wipeE, hv acc e hp, evC_no, bind_ok_, if_true, h1, h3]
  obtain ⟨os, e', h1, h2, h3⟩ := main ds [] e rfl (Nat.zero_le _) h0
  exact ⟨os, e', h1, hq _ _ h3 h2⟩
/-- one name, every item by a function, nothing stored -/
theorem co_each {γ : Type} {enc : γ → PyData} {g : γ → O} {v : Nat} {elt : E} {e : Env} {xs : List γ} (hv : e[v]? = some none) (h : ∀ x ∈ xs, ev F false elt (e.set v (some (.fz (enc x)))) = .ok (g x) (e.set v (some (.fz (enc x))))) : co F (.nm v) [v] .no elt (xs.map enc) e = .ok (xs.map g) e := co_mapA hv h
end
/-! ### cuts of any list -/
theorem cutL_lo {α : Type} {xs : List α} {i : Int} {a : Nat} (e : i = a) (h : a ≤ xs.length) : cutD xs (some i) none = xs.drop a := by
  subst e
  unfold cutD
  rw [sIx_of (by omega) (by omega)]
  have : HT.sIx xs.length xs.length none = xs.length := rfl
  rw [this, List.take_of_length_le (by rw [List.length_drop]; omega)]
  rfl
theorem cutL_hi {α : Type} {xs : List α} {i : Int} {a : Nat} (e : i = a) (h : a ≤ xs.length) : cutD xs none (some i) = xs.take a := by
  subst e
  unfold cutD
  rw [sIx_of (by omega) (by omega)]
  have : HT.sIx xs.length 0 none = 0 := rfl
  rw [this, Nat.sub_zero, List.drop_zero]
  rfl
abbrev natD (i : Nat) : PyData := .int i
abbrev natL (P : List Nat) : PyData := .list (P.map natD)
theorem at_nat {P : List Nat} {i : Nat} (h : i < P.length) : atI (P.map natD) (i : Int) = some (natD P[i]) := by
  rw [atI_pos (by omega), Int.toNat_natCast, List.getElem?_map, List.getElem?_eq_getElem h]
  rfl
theorem room_of {m : Nat} (h : m ≤ 1000000) : m ≤ sizeLine := by
  unfold sizeLine
  omega
theorem rngD_nat {m : Nat} : rngD 0 m = (List.range m).map natD := by
  unfold rngD
  refine List.map_congr_left fun i _ => ?_
  show PyData.int _ = PyData.int _
  rw [Int.zero_add]
theorem seqIx {i : Int} {m : Nat} (h0 : 0 ≤ i) (h : i < m) : seqIndex? i m = some i.toNat := by
  unfold seqIndex?
  simp only [if_neg (show ¬ i < 0 by omega)]
  simp [h0, h]
/-- where a law knows classes of errors -/
abbrev spC (K : PySem.W.Frag) (T : List Df) (k : Nat) (f : Str) (m : Nat) : Sp := spL K (clF K) T k f m
theorem sp_scriptC {K : PySem.W.Frag} {T : List Df} {k : Nat} {f : Str} {H : Hp} {a : Addr} {ns : List Int} {E : XK} (hS : SqL K H a (ns.map V.int)) (h : ∃ n ps, run T n k f [.fz (.list (ns.map .int))] = .ok (.fz (.bool true)) ps) : spC K T k f 1 [.ref a] H (fun v _ => v = .bl true) E := sp_script hS h
end Rim
namespace Lp
open PySem PySem.Spec PyProof.Rows L2 Rim

/-! ### tables by name -/
section
variable {κ α β : Type} [DecidableEq κ] {k j : κ} {v u : α} {L : List (κ × α)}
theorem get1_map {κ' : Type} [DecidableEq κ'] {f : κ → κ'} {g : α → β} (hf : ∀ a b, f a = f b → a = b) : ∀ {L : List (κ × α)}, get1 (L.map fun e => (f e.1, g e.2)) (f k) = (get1 L k).map g
  | [] => rfl
  | e :: L => by
    rw [List.map_cons]
    unfold get1
    by_cases h : e.1 = k
    · rw [if_pos (by rw [h]), if_pos h]
      rfl
    · rw [if_neg fun z => h (hf _ _ z), if_neg h, get1_map hf]
theorem put1_map {κ' : Type} [DecidableEq κ'] {f : κ → κ'} {g : α → β} (hf : ∀ a b, f a = f b → a = b) : ∀ {L : List (κ × α)}, put1 (L.map fun e => (f e.1, g e.2)) (f k) (g v) = (put1 L k v).map fun e => (f e.1, g e.2)
  | [] => rfl
  | e :: L => by
    rw [List.map_cons]
    unfold put1
    by_cases h : e.1 = k
    · rw [if_pos (by rw [h]), if_pos h]
      rfl
    · rw [if_neg fun z => h (hf _ _ z), if_neg h, put1_map hf]
      rfl
theorem get1_mem : ∀ {L : List (κ × α)}, get1 L k = some v → (k, v) ∈ L
  | e :: L, h => by
    unfold get1 at h
    split at h
    · rename_i e1
      cases h
      rw [← e1]
      exact List.mem_cons_self
    · exact List.mem_cons_of_mem _ (get1_mem h)
theorem get1_of : ∀ {L : List (κ × α)}, (L.map (·.1)).Nodup → (k, v) ∈ L → get1 L k = some v
  | e :: L, hn, h => by
    rw [List.map_cons, List.nodup_cons] at hn
    unfold get1
    rcases List.mem_cons.mp h with z | z
    · rw [← z, if_pos rfl]
    · rw [if_neg fun q => hn.1 (by rw [q]; exact List.mem_map.mpr ⟨_, z, rfl⟩)]
      exact get1_of hn.2 z
theorem get1_key : ∀ {L : List (κ × α)}, k ∈ L.map (·.1) → ∃ v, get1 L k = some v
  | e :: L, h => by
    unfold get1
    by_cases q : e.1 = k
    · rw [if_pos q]; exact ⟨_, rfl⟩
    · rw [if_neg q]
      rw [List.map_cons] at h
      rcases List.mem_cons.mp h with z | z
      · exact absurd z.symm q
      · exact get1_key z
theorem get1_no : ∀ {L : List (κ × α)}, ¬ k ∈ L.map (·.1) → get1 L k = none
  | [], _ => rfl
  | e :: L, h => by
    rw [List.map_cons] at h
    unfold get1
    rw [if_neg fun q => h (by rw [q]; exact List.mem_cons_self), get1_no fun z => h (List.mem_cons_of_mem _ z)]
/-- a value changed -/
theorem put1_keys : ∀ {L : List (κ × α)}, get1 L k = some v → (put1 L k u).map (·.1) = L.map (·.1)
  | e :: L, h => by
    unfold get1 at h
    unfold put1
    split at h
    · rename_i q
      rw [if_pos q]
      rfl
    · rename_i q
      rw [if_neg q, List.map_cons, List.map_cons, put1_keys h]
theorem put1_mem : ∀ {L : List (κ × α)}, (L.map (·.1)).Nodup → get1 L k = some v → ∀ e, e ∈ put1 L k u ↔ (e ∈ L ∧ e.1 ≠ k) ∨ e = (k, u)
  | x :: L, hn, h, e => by
    rw [List.map_cons, List.nodup_cons] at hn
    unfold get1 at h
    unfold put1
    split at h
    · rename_i q
      rw [if_pos q, List.mem_cons, List.mem_cons, ← q]
      constructor
      · rintro (z | z)
        · exact .inr z
        · exact .inl ⟨.inr z, fun y => hn.1 (by rw [← y]; exact List.mem_map.mpr ⟨_, z, rfl⟩)⟩
      · rintro (⟨z | z, y⟩ | z)
        · exact absurd (by rw [z]) y
        · exact .inr z
        · exact .inl z
    · rename_i q
      rw [if_neg q, List.mem_cons, List.mem_cons, put1_mem hn.2 h e]
      constructor
      · rintro (z | ⟨z, y⟩ | z)
        · exact .inl ⟨.inl z, by rw [z]; exact q⟩
        · exact .inl ⟨.inr z, y⟩
        · exact .inr z
      · rintro (⟨z | z, y⟩ | z)
        · exact .inl z
        · exact .inr (.inl ⟨z, y⟩)
        · exact .inr (.inr z)
theorem put1_cnt (f : κ × α → Bool) {u : α} : ∀ {L : List (κ × α)}, get1 L k = some v → (put1 L k u).countP f + (if f (k, v) then 1 else 0) = L.countP f + if f (k, u) then 1 else 0
  | e :: L, h => by
    unfold get1 at h
    unfold put1
    split at h
    · rename_i q
      cases h
      rw [if_pos q]
      have e1 : f e = f (k, e.2) := by rw [← q]
      have e2 : f (e.1, u) = f (k, u) := by rw [q]
      have c1 : ((e.1, u) :: L).countP f = L.countP f + if f (k, u) then 1 else 0 := by rw [List.countP_cons, e2]
      have c2 : (e :: L).countP f = L.countP f + if f (k, e.2) then 1 else 0 := by rw [List.countP_cons, e1]
      rw [c1, c2]
      omega
    · rename_i q
      have ih := put1_cnt f (u := u) h
      have c1 : (e :: put1 L k u).countP f = (put1 L k u).countP f + if f e then 1 else 0 := List.countP_cons
      have c2 : (e :: L).countP f = L.countP f + if f e then 1 else 0 := List.countP_cons
      rw [if_neg q, c1, c2]
      omega
end
/-! ### nets that grow -/
abbrev LT := List (Str × List Str)
def has (w : Str) (e : Str × List Str) : Bool := decide (w ∈ e.2)
abbrev cnt (w : Str) (L : LT) : Nat := L.countP (has w)
/-- a wire that can be peeled -/
def Peel (posts : List Str) (w : Str) (L : LT) : Prop :=
  (∃ p q, p ≠ q ∧ p ∈ posts ∧ q ∈ posts ∧ (∃ e ∈ L, e.1 = p ∧ w ∈ e.2) ∧ ∃ e ∈ L, e.1 = q ∧ w ∈ e.2) ∨
  ∃ p, p ∈ posts ∧ (p, [w]) ∈ L ∧ ∃ e ∈ L, e.1 ∉ posts ∧ w ∈ e.2
structure Ly (posts inner wires : List Str) (L : LT) (n : Nat) : Prop where
  keys : (L.map (·.1)).Nodup
  pst : ∀ p ∈ posts, p ∈ L.map (·.1)
  inn : ∀ k ∈ L.map (·.1), k ∈ posts ∨ ∃ i, i < n ∧ inner[i]? = some k
  nd : ∀ e ∈ L, e.2.Nodup ∧ ∀ w ∈ e.2, ∃ i, i < n ∧ wires[i]? = some w
  ne : ∀ e ∈ L, e.1 ∉ posts → e.2 ≠ []
  two : ∀ i w, i < n → wires[i]? = some w → cnt w L = 2
  last : n = 0 ∨ ∃ w, wires[n - 1]? = some w ∧ Peel posts w L
section
variable {posts inner wires : List Str} {L : LT} {n : Nat}
theorem Ly.start (h : posts.Nodup) : Ly posts inner wires (posts.map fun p => (p, [])) 0 := by
  have e : (posts.map fun p => ((p, []) : Str × List Str)).map (·.1) = posts := by
    rw [List.map_map]
    exact (List.map_congr_left fun _ _ => rfl).trans (List.map_id _)
  refine ⟨by rw [e]; exact h, fun p hp => by rw [e]; exact hp, fun k hk => .inl (by rw [e] at hk; exact hk), fun x hx => ?_, fun x hx hn => ?_, fun i w hi => absurd hi (by omega), .inl rfl⟩
  · obtain ⟨p, _, rfl⟩ := List.mem_map.mp hx
    exact ⟨List.nodup_nil, fun w hw => by cases hw⟩
  · obtain ⟨p, hp, rfl⟩ := List.mem_map.mp hx
    exact absurd hp hn
theorem idx_inj {xs : List Str} (h : xs.Nodup) {i j : Nat} {x : Str} (hi : xs[i]? = some x) (hj : xs[j]? = some x) : i = j := by
  have li : i < xs.length := by
    rcases Nat.lt_or_ge i xs.length with z | z
    · exact z
    · rw [List.getElem?_eq_none z] at hi; cases hi
  have lj : j < xs.length := by
    rcases Nat.lt_or_ge j xs.length with z | z
    · exact z
    · rw [List.getElem?_eq_none z] at hj; cases hj
  rw [List.getElem?_eq_getElem li] at hi
  rw [List.getElem?_eq_getElem lj] at hj
  have e := (Option.some.inj hi).trans (Option.some.inj hj).symm
  have pw := List.pairwise_iff_getElem.mp h
  rcases Nat.lt_trichotomy i j with z | z | z
  · exact absurd e (pw i j li lj z)
  · exact z
  · exact absurd e.symm (pw j i lj li z)
theorem Ly.new (I : Ly posts inner wires L n) (hw : wires.Nodup) {w : Str} (h : wires[n]? = some w) : ∀ e ∈ L, ¬ w ∈ e.2 := fun e he z => by
  obtain ⟨i, hi, q⟩ := (I.nd e he).2 w z
  have := idx_inj hw q h
  omega
theorem cnt_zero {w : Str} (h : ∀ e ∈ L, ¬ w ∈ e.2) : cnt w L = 0 := List.countP_eq_zero.mpr fun e he => by
  unfold has
  simpa using h e he
theorem Ly.old (I : Ly posts inner wires L n) (hw : wires.Nodup) {w w' : Str} (h : wires[n]? = some w) {i : Nat} (hi : i < n) (h' : wires[i]? = some w') : w' ≠ w := fun e => by
  rw [e] at h'
  have := idx_inj hw h' h
  omega
theorem ups {n : Nat} {xs : List Str} {k : Str} (h : ∃ i, i < n ∧ xs[i]? = some k) : ∃ i, i < n + 1 ∧ xs[i]? = some k := by
  obtain ⟨i, hi, e⟩ := h
  exact ⟨i, by omega, e⟩
/-- a wire along the rim -/
theorem Ly.tie (I : Ly posts inner wires L n) (hw : wires.Nodup) {w p q : Str} {lp lq : List Str} (h : wires[n]? = some w) (hp : p ∈ posts) (hq : q ∈ posts) (hpq : p ≠ q) (gp : get1 L p = some lp) (gq : get1 L q = some lq) :
    Ly posts inner wires (put1 (put1 L p (w :: lp)) q (lq ++ [w])) (n + 1) ∧ get1 (put1 L p (w :: lp)) q = some lq := by
  have k1 : (put1 L p (w :: lp)).map (·.1) = L.map (·.1) := put1_keys gp
  have n1 : ((put1 L p (w :: lp)).map (·.1)).Nodup := by rw [k1]; exact I.keys
  have m1 := put1_mem (u := w :: lp) I.keys gp
  have gq1 : get1 (put1 L p (w :: lp)) q = some lq := get1_of n1 ((m1 _).mpr (.inl ⟨get1_mem gq, Ne.symm hpq⟩))
  have k2 : (put1 (put1 L p (w :: lp)) q (lq ++ [w])).map (·.1) = L.map (·.1) := (put1_keys gq1).trans k1
  have m2 := put1_mem (u := lq ++ [w]) n1 gq1
  have new := I.new hw h
  have np := new _ (get1_mem gp)
  have nq := new _ (get1_mem gq)
  refine ⟨⟨by rw [k2]; exact I.keys, fun x hx => by rw [k2]; exact I.pst x hx, fun k hk => by rw [k2] at hk; exact (I.inn k hk).imp id ups, fun e he => ?_, fun e he hn => ?_, fun i w' hi hw' => ?_, .inr ⟨w, by simpa using h, .inl ⟨p, q, hpq, hp, hq, ?_, ?_⟩⟩⟩, gq1⟩
  · rcases (m2 e).mp he with ⟨he, h1⟩ | rfl
    · rcases (m1 e).mp he with ⟨he, h2⟩ | rfl
      · exact ⟨(I.nd e he).1, fun w hw => ups ((I.nd e he).2 w hw)⟩
      · have := I.nd _ (get1_mem gp)
        refine ⟨List.nodup_cons.mpr ⟨np, this.1⟩, fun w' hw' => ?_⟩
        rcases List.mem_cons.mp hw' with z | z
        · exact ⟨n, by omega, by rw [z]; exact h⟩
        · exact ups (this.2 w' z)
    · have := I.nd _ (get1_mem gq)
      refine ⟨List.nodup_append.mpr ⟨this.1, by simp, fun a ha b hb => fun e => nq ?_⟩, fun w' hw' => ?_⟩
      · rw [List.mem_singleton.mp hb] at e
        rw [← e]; exact ha
      · rcases List.mem_append.mp hw' with z | z
        · exact ups (this.2 w' z)
        · exact ⟨n, by omega, by rw [List.mem_singleton.mp z]; exact h⟩
  · rcases (m2 e).mp he with ⟨he, h1⟩ | rfl
    · rcases (m1 e).mp he with ⟨he, h2⟩ | rfl
      · exact I.ne e he hn
      · exact absurd hp hn
    · exact absurd hq hn
  · have c1 := put1_cnt (has w') (u := w :: lp) gp
    have c2 := put1_cnt (has w') (u := lq ++ [w]) gq1
    by_cases e : i = n
    · subst e
      rw [h] at hw'
      cases hw'
      have z0 := cnt_zero new
      have a1 : has w (p, lp) = false := by unfold has; simpa using np
      have a2 : has w (p, w :: lp) = true := by unfold has; simp
      have a3 : has w (q, lq) = false := by unfold has; simpa using nq
      have a4 : has w (q, lq ++ [w]) = true := by unfold has; simp
      simp only [a1, a2, a3, a4] at c1 c2
      unfold cnt at z0 ⊢
      simp at c1 c2
      omega
    · have hi2 : i < n := by omega
      have hne := I.old hw h hi2 hw'
      have z0 := I.two i w' hi2 hw'
      have a1 : has w' (p, w :: lp) = has w' (p, lp) := by unfold has; simp [hne]
      have a2 : has w' (q, lq ++ [w]) = has w' (q, lq) := by unfold has; simp [hne]
      rw [a1] at c1
      rw [a2] at c2
      unfold cnt at z0 ⊢
      omega
  · exact ⟨(p, w :: lp), (m2 _).mpr (.inl ⟨(m1 _).mpr (.inr rfl), hpq⟩), rfl, List.mem_cons_self⟩
  · exact ⟨(q, lq ++ [w]), (m2 _).mpr (.inr rfl), rfl, by simp⟩
/-- a wire inwards -/
theorem Ly.spike (I : Ly posts inner wires L n) (hw : wires.Nodup) (hx : (posts ++ inner).Nodup) {w p x : Str} {lp : List Str} (h : wires[n]? = some w) (hi : inner[n]? = some x) (hp : p ∈ posts) (gp : get1 L p = some lp) :
    Ly posts inner wires (put1 (put1 L x (w :: lp)) p [w]) (n + 1) ∧ get1 (put1 L x (w :: lp)) p = some lp ∧ get1 L x = none := by
  have xi : x ∈ inner := List.mem_of_getElem? hi
  obtain ⟨np0, ni0, dj⟩ := List.nodup_append.mp hx
  have xp : x ∉ posts := fun z => dj x z x xi rfl
  have xk : ¬ x ∈ L.map (·.1) := fun z => by
    rcases I.inn x z with y | ⟨i, hi2, e⟩
    · exact xp y
    · have := idx_inj ni0 e hi
      omega
  have g0 := get1_no xk
  have e1 : put1 L x (w :: lp) = L ++ [(x, w :: lp)] := get1_none_put g0
  have px : p ≠ x := fun e => xp (by rw [← e]; exact hp)
  have k1 : (put1 L x (w :: lp)).map (·.1) = L.map (·.1) ++ [x] := by rw [e1, List.map_append]; rfl
  have n1 : ((put1 L x (w :: lp)).map (·.1)).Nodup := by
    rw [k1]
    refine List.nodup_append.mpr ⟨I.keys, by simp, fun a ha b hb => fun e => xk ?_⟩
    rw [List.mem_singleton.mp hb] at e
    rw [← e]; exact ha
  have gp1 : get1 (put1 L x (w :: lp)) p = some lp := get1_of n1 (by rw [e1]; exact List.mem_append_left _ (get1_mem gp))
  have k2 : (put1 (put1 L x (w :: lp)) p [w]).map (·.1) = L.map (·.1) ++ [x] := (put1_keys gp1).trans k1
  have m2 := put1_mem (u := [w]) n1 gp1
  have new := I.new hw h
  have np := new _ (get1_mem gp)
  have mem1 : ∀ e, e ∈ put1 L x (w :: lp) ↔ e ∈ L ∨ e = (x, w :: lp) := fun e => by rw [e1, List.mem_append, List.mem_singleton]
  have ndp := I.nd _ (get1_mem gp)
  refine ⟨⟨by rw [k2, ← k1]; exact n1, fun y hy => by rw [k2]; exact List.mem_append_left _ (I.pst y hy), fun k hk => ?_, fun e he => ?_, fun e he hn => ?_, fun i w' hi' hw' => ?_, .inr ⟨w, by simpa using h, .inr ⟨p, hp, (m2 _).mpr (.inr rfl), (x, w :: lp), ?_, xp, List.mem_cons_self⟩⟩⟩, gp1, g0⟩
  · rw [k2] at hk
    rcases List.mem_append.mp hk with z | z
    · exact (I.inn k z).imp id ups
    · rw [List.mem_singleton.mp z]
      exact .inr ⟨n, by omega, hi⟩
  · rcases (m2 e).mp he with ⟨he, h1⟩ | rfl
    · rcases (mem1 e).mp he with he | rfl
      · exact ⟨(I.nd e he).1, fun w hw => ups ((I.nd e he).2 w hw)⟩
      · refine ⟨List.nodup_cons.mpr ⟨np, ndp.1⟩, fun w' hw' => ?_⟩
        rcases List.mem_cons.mp hw' with z | z
        · exact ⟨n, by omega, by rw [z]; exact h⟩
        · exact ups (ndp.2 w' z)
    · refine ⟨by simp, fun w' hw' => ⟨n, by omega, by rw [List.mem_singleton.mp hw']; exact h⟩⟩
  · rcases (m2 e).mp he with ⟨he, h1⟩ | rfl
    · rcases (mem1 e).mp he with he | rfl
      · exact I.ne e he hn
      · simp
    · simp
  · have c1 : cnt w' (put1 L x (w :: lp)) = cnt w' L + if has w' (x, w :: lp) then 1 else 0 := by
      unfold cnt
      rw [e1, List.countP_append]
      simp [List.countP_cons]
    have c2 := put1_cnt (has w') (u := [w]) gp1
    by_cases e : i = n
    · subst e
      rw [h] at hw'
      cases hw'
      have z0 := cnt_zero new
      have a1 : has w (p, lp) = false := by unfold has; simpa using np
      have a2 : has w (x, w :: lp) = true := by unfold has; simp
      have a3 : has w (p, [w]) = true := by unfold has; simp
      simp only [a1, a2, a3] at c1 c2
      unfold cnt at z0 c1 ⊢
      simp at c1 c2
      omega
    · have hi2 : i < n := by omega
      have hne := I.old hw h hi2 hw'
      have z0 := I.two i w' hi2 hw'
      have a1 : has w' (x, w :: lp) = has w' (p, lp) := by unfold has; simp [hne]
      have a2 : has w' (p, [w]) = false := by unfold has; simp [hne]
      rw [a1] at c1
      rw [a2] at c2
      unfold cnt at z0 c1 ⊢
      simp at c2
      omega
  · exact (m2 _).mpr (.inl ⟨(mem1 _).mpr (.inr rfl), Ne.symm px⟩)
end
end Lp
namespace Lp
open PySem PySem.Spec PyProof.Rows L2 Rim

/-! ### rows in any order -/
structure Rw (posts : List Str) (R : LT) (ws : List Str) : Prop where
  keys : (R.map (·.1)).Nodup
  nd : ∀ r ∈ R, r.2.Nodup
  two : ∀ w ∈ ws, cnt w R = 2
  last : ws ≠ [] → ∃ w ∈ ws, Peel posts w R
section
variable {posts inner wires : List Str} {L R : LT} {n : Nat} {w : Str}
theorem key_one (h : (L.map (·.1)).Nodup) {e e' : Str × List Str} (a : e ∈ L) (b : e' ∈ L) (q : e.1 = e'.1) : e = e' := by
  have h1 := get1_of (k := e.1) (v := e.2) h a
  have h2 := get1_of (k := e.1) (v := e'.2) h (by rw [q]; exact b)
  rw [h1] at h2
  exact Prod.ext q (Option.some.inj h2)
theorem rows_of (I : Ly posts inner wires L n) (hn : n ≤ wires.length) (hp : (R.map (·.1)).Perm (L.map (·.1))) (hr : ∀ r ∈ R, ∃ ls, (r.1, ls) ∈ L ∧ r.2.Perm ls ∧ (r.1 ∈ posts → r.2 = ls)) : Rw posts R (wires.take n) := by
  have nk : (R.map (·.1)).Nodup := hp.nodup_iff.mpr I.keys
  have cw : ∀ w, cnt w R = cnt w L := fun w => by
    let g : Str → Bool := fun k => decide (w ∈ (get1 L k).getD [])
    have e1 : R.countP (has w) = (R.map (·.1)).countP g := by
      rw [List.countP_map]
      refine List.countP_congr fun r hr' => ?_
      obtain ⟨ls, a, b, _⟩ := hr r hr'
      show has w r = true ↔ decide (w ∈ (get1 L r.1).getD []) = true
      rw [get1_of I.keys a]
      unfold has
      rw [decide_eq_true_iff, decide_eq_true_iff]
      exact b.mem_iff
    have e2 : L.countP (has w) = (L.map (·.1)).countP g := by
      rw [List.countP_map]
      refine List.countP_congr fun r hr' => ?_
      show has w r = true ↔ decide (w ∈ (get1 L r.1).getD []) = true
      rw [get1_of (v := r.2) I.keys hr']
      exact Iff.rfl
    unfold cnt
    rw [e1, e2, hp.countP_eq]
  have row : ∀ e ∈ L, ∃ r ∈ R, r.1 = e.1 ∧ r.2.Perm e.2 ∧ (e.1 ∈ posts → r.2 = e.2) := fun e he => by
    obtain ⟨r, h1, h2⟩ := List.mem_map.mp (hp.mem_iff.mpr (List.mem_map.mpr ⟨e, he, rfl⟩))
    obtain ⟨ls, a, b, c⟩ := hr r h1
    have z := key_one I.keys a he h2
    have z2 : ls = e.2 := by rw [← z]
    exact ⟨r, h1, h2, by rw [← z2]; exact b, fun q => by rw [← z2]; exact c (by rw [h2]; exact q)⟩
  have tk : ∀ {w}, w ∈ wires.take n → ∃ i, i < n ∧ wires[i]? = some w := fun {w} h => by
    obtain ⟨i, hi, e⟩ := List.mem_iff_getElem.mp h
    rw [List.length_take] at hi
    rw [List.getElem_take] at e
    exact ⟨i, by omega, by rw [List.getElem?_eq_getElem (by omega), e]⟩
  refine ⟨nk, fun r hr' => ?_, fun w hw => ?_, fun hne => ?_⟩
  · obtain ⟨ls, a, b, _⟩ := hr r hr'
    exact b.nodup_iff.mpr (I.nd _ a).1
  · obtain ⟨i, hi, e⟩ := tk hw
    rw [cw, I.two i w hi e]
  · rcases I.last with z | ⟨w, h1, h2⟩
    · rw [z] at hne
      exact absurd rfl hne
    · have n0 : n ≠ 0 := fun z => hne (by rw [z]; rfl)
      refine ⟨w, List.mem_of_getElem? (i := n - 1) (by rw [List.getElem?_take, if_pos (by omega)]; exact h1), ?_⟩
      rcases h2 with ⟨p, q, a, b, c, ⟨e, d1, d2, d3⟩, ⟨e', f1, f2, f3⟩⟩ | ⟨p, a, b, e, d1, d2, d3⟩
      · obtain ⟨r, g1, g2, g3, _⟩ := row e d1
        obtain ⟨r', k1, k2, k3, _⟩ := row e' f1
        exact .inl ⟨p, q, a, b, c, ⟨r, g1, g2.trans d2, g3.mem_iff.mpr d3⟩, ⟨r', k1, k2.trans f2, k3.mem_iff.mpr f3⟩⟩
      · obtain ⟨r, g1, g2, _, g4⟩ := row _ b
        obtain ⟨r', k1, k2, k3, _⟩ := row e d1
        have er : r = (p, [w]) := Prod.ext g2 (g4 a)
        exact .inr ⟨p, a, by rw [← er]; exact g1, r', k1, by rw [k2]; exact d2, k3.mem_iff.mpr d3⟩
end
/-! ### the two ends of a wire -/
def endsF (R : LT) (w : Str) : List (Str × Nat) := R.flatMap fun r => (r.2.zipIdx.filter fun q => decide (q.1 = w)).map fun q => (r.1, q.2)
theorem ends_row {w a : Str} : ∀ {xs : List Str} {j : Nat}, xs.Nodup → (((xs.zipIdx j).filter fun q => decide (q.1 = w)).map fun q => (a, q.2)).map (·.1) = if w ∈ xs then [a] else []
  | [], _, _ => rfl
  | x :: xs, j, h => by
    rw [List.nodup_cons] at h
    have ih := ends_row (w := w) (a := a) (j := j + 1) h.2
    rw [List.zipIdx_cons, List.filter_cons]
    by_cases e : x = w
    · have nm : ¬ w ∈ xs := by rw [← e]; exact h.1
      rw [if_neg nm] at ih
      rw [if_pos (by simpa using e), List.map_cons, List.map_cons, ih, if_pos (by rw [e]; exact List.mem_cons_self)]
    · rw [if_neg (by simpa using e), ih]
      have : w ∈ x :: xs ↔ w ∈ xs := by
        rw [List.mem_cons]
        exact ⟨fun z => z.resolve_left fun y => e y.symm, .inr⟩
      by_cases m : w ∈ xs
      · rw [if_pos m, if_pos (this.mpr m)]
      · rw [if_neg m, if_neg fun z => m (this.mp z)]
theorem ends_pts {w : Str} : ∀ {R : LT}, (∀ r ∈ R, r.2.Nodup) → (endsF R w).map (·.1) = (R.filter (has w)).map (·.1)
  | [], _ => rfl
  | r :: R, h => by
    have ih := ends_pts (w := w) (R := R) fun x hx => h x (List.mem_cons_of_mem _ hx)
    unfold endsF at ih ⊢
    rw [List.flatMap_cons, List.map_append, ih, ends_row (h r List.mem_cons_self), List.filter_cons]
    by_cases m : w ∈ r.2
    · rw [if_pos m, if_pos (by unfold has; simpa using m)]
      rfl
    · rw [if_neg m, if_neg (by unfold has; simpa using m)]
      rfl
def spikeB (posts : List Str) (one other : Str) (r : Str × List Str) : Bool := (decide (r.1 = one) || decide (r.1 = other)) && (decide (r.1 ∈ posts) && decide (r.2.length = 1))
def kindP (posts : List Str) (R : LT) (one other : Str) : Option Str :=
  if one ∈ posts ∧ other ∈ posts then some "edge" else if R.any (spikeB posts one other) then some "spike" else none
def postsOf (posts : List Str) (R : LT) (w : Str) : LT := (R.filter (has w)).filter fun r => decide (r.1 ∈ posts)
def kindD (posts : List Str) (R : LT) (w : Str) : Option Str :=
  if (postsOf posts R w).length = 2 then some "edge" else if (postsOf posts R w).length = 1 ∧ ((postsOf posts R w).getD 0 ("", [])).2.length = 1 then some "spike" else none
section
variable {posts : List Str} {R : LT} {w : Str}
theorem two_rows (k : (R.map (·.1)).Nodup) (h : cnt w R = 2) : ∃ a b, R.filter (has w) = [a, b] ∧ a ∈ R ∧ b ∈ R ∧ w ∈ a.2 ∧ w ∈ b.2 ∧ a.1 ≠ b.1 := by
  have l : (R.filter (has w)).length = 2 := by rw [← List.countP_eq_length_filter]; exact h
  match hf : R.filter (has w), l with
  | [a, b], _ =>
    have ha : a ∈ R.filter (has w) := by rw [hf]; simp
    have hb : b ∈ R.filter (has w) := by rw [hf]; simp
    obtain ⟨a1, a2⟩ := List.mem_filter.mp ha
    obtain ⟨b1, b2⟩ := List.mem_filter.mp hb
    have nn : ((R.filter (has w)).map (·.1)).Nodup := List.Nodup.sublist (List.Sublist.map _ List.filter_sublist) k
    rw [hf] at nn
    refine ⟨a, b, rfl, a1, b1, by unfold has at a2; simpa using a2, by unfold has at b2; simpa using b2, fun e => ?_⟩
    rw [List.map_cons, List.map_cons, List.nodup_cons] at nn
    exact nn.1 (by rw [e]; exact List.mem_cons_self)
theorem kind_eq (k : (R.map (·.1)).Nodup) {a b : Str × List Str} (hf : R.filter (has w) = [a, b]) (ha : a ∈ R) (hb : b ∈ R) (hab : a.1 ≠ b.1) : kindP posts R a.1 b.1 = kindD posts R w := by
  have any : ∀ x y : Str × List Str, x ∈ R → x.1 ∈ posts → y.1 ∉ posts → ∀ one other, (one = x.1 ∧ other = y.1) ∨ (one = y.1 ∧ other = x.1) → R.any (spikeB posts one other) = decide (x.2.length = 1) := fun x y hx px py one other hh => by
    rw [Bool.eq_iff_iff, List.any_eq_true, decide_eq_true_iff]
    constructor
    · rintro ⟨r, hr, hs⟩
      unfold spikeB at hs
      simp only [Bool.and_eq_true, Bool.or_eq_true, decide_eq_true_eq] at hs
      obtain ⟨h1, h2, h3⟩ := hs
      have : r.1 = x.1 := by
        rcases hh with ⟨e1, e2⟩ | ⟨e1, e2⟩ <;> rcases h1 with z | z
        · exact z.trans e1
        · exact absurd (by rw [← e2, ← z]; exact h2) py
        · exact absurd (by rw [← e1, ← z]; exact h2) py
        · exact z.trans e2
      rw [key_one k hx hr this.symm]
      exact h3
    · intro h
      refine ⟨x, hx, ?_⟩
      unfold spikeB
      simp only [Bool.and_eq_true, Bool.or_eq_true, decide_eq_true_eq]
      exact ⟨hh.elim (fun z => .inl z.1.symm) fun z => .inr z.2.symm, px, h⟩
  have ps : postsOf posts R w = (if a.1 ∈ posts then [a] else []) ++ if b.1 ∈ posts then [b] else [] := by
    unfold postsOf
    rw [hf, List.filter_cons, List.filter_cons]
    by_cases h1 : a.1 ∈ posts <;> by_cases h2 : b.1 ∈ posts <;> simp [h1, h2]
  unfold kindP kindD
  rw [ps]
  by_cases h1 : a.1 ∈ posts
  · by_cases h2 : b.1 ∈ posts
    · simp [h1, h2]
    · have := any a b ha h1 h2 a.1 b.1 (.inl ⟨rfl, rfl⟩)
      simp [h1, h2, this]
  · by_cases h2 : b.1 ∈ posts
    · have := any b a hb h2 h1 a.1 b.1 (.inr ⟨rfl, rfl⟩)
      simp [h1, h2, this]
    · have : R.any (spikeB posts a.1 b.1) = false := by
        rw [List.any_eq_false]
        intro r hr hs
        unfold spikeB at hs
        simp only [Bool.and_eq_true, Bool.or_eq_true, decide_eq_true_eq] at hs
        obtain ⟨z | z, h3, h4⟩ := hs
        · exact h1 (by rw [← z]; exact h3)
        · exact h2 (by rw [← z]; exact h3)
      simp [h1, h2, this]
theorem peel_kind (k : (R.map (·.1)).Nodup) (h : cnt w R = 2) (p : Peel posts w R) : (kindD posts R w).isSome = true := by
  obtain ⟨a, b, hf, ha, hb, wa, wb, hab⟩ := two_rows k h
  have ps : postsOf posts R w = (if a.1 ∈ posts then [a] else []) ++ if b.1 ∈ posts then [b] else [] := by
    unfold postsOf
    rw [hf, List.filter_cons, List.filter_cons]
    by_cases h1 : a.1 ∈ posts <;> by_cases h2 : b.1 ∈ posts <;> simp [h1, h2]
  have mem : ∀ e ∈ R, w ∈ e.2 → e = a ∨ e = b := fun e he hw => by
    have : e ∈ R.filter (has w) := List.mem_filter.mpr ⟨he, by unfold has; simpa using hw⟩
    rw [hf] at this
    simpa using this
  unfold kindD
  rw [ps]
  rcases p with ⟨p, q, hpq, hp, hq, ⟨e, d1, d2, d3⟩, ⟨e', f1, f2, f3⟩⟩ | ⟨p, hp, d, e, d1, d2, d3⟩
  · have m1 := mem e d1 d3
    have m2 := mem e' f1 f3
    have h1 : a.1 ∈ posts ∧ b.1 ∈ posts := by
      rcases m1 with z | z <;> rcases m2 with y | y
      · exact absurd (by rw [← d2, ← f2, z, y]) hpq
      · rw [← z, ← y, d2, f2]; exact ⟨hp, hq⟩
      · rw [← z, ← y, d2, f2]; exact ⟨hq, hp⟩
      · exact absurd (by rw [← d2, ← f2, z, y]) hpq
    simp [h1.1, h1.2]
  · have m1 := mem _ d (by simp)
    have m2 := mem e d1 d3
    rcases m1 with z | z <;> rcases m2 with y | y
    · exact absurd (by rw [y, ← z]; exact hp) d2
    · have h1 : a.1 ∈ posts := by rw [← z]; exact hp
      have h2 : b.1 ∉ posts := by rw [← y]; exact d2
      have h3 : a.2.length = 1 := by rw [← z]; rfl
      simp [h1, h2, h3]
    · have h1 : b.1 ∈ posts := by rw [← z]; exact hp
      have h2 : a.1 ∉ posts := by rw [← y]; exact d2
      have h3 : b.2.length = 1 := by rw [← z]; rfl
      simp [h1, h2, h3]
    · exact absurd (by rw [y, ← z]; exact hp) d2
end
end Lp
namespace Gn
open PySem PySem.Spec PyProof.Rows L2 Rim Lp

/-! ### tables -/
section
variable {κ α : Type} [DecidableEq κ]
theorem get1_put1 {k j : κ} {v : α} : ∀ {L : List (κ × α)}, get1 (put1 L k v) j = if k = j then some v else get1 L j
  | [] => by
    unfold put1 get1
    rfl
  | e :: L => by
    unfold put1
    by_cases h : e.1 = k
    · rw [if_pos h]
      unfold get1
      by_cases g : k = j
      · rw [if_pos (by simpa [h] using g), if_pos g]
      · rw [if_neg (by simpa [h] using g), if_neg g, if_neg (by simpa [h] using g)]
    · rw [if_neg h]
      unfold get1
      by_cases g : e.1 = j
      · rw [if_pos g, if_neg (by rw [← g]; exact fun z => h z.symm), if_pos g]
      · rw [if_neg g, if_neg g]
        exact get1_put1
theorem put1_len {k : κ} {v : α} : ∀ {L : List (κ × α)}, (put1 L k v).length ≤ L.length + 1
  | [] => Nat.le_refl _
  | e :: L => by
    unfold put1
    split
    · simp
    · have := put1_len (k := k) (v := v) (L := L)
      rw [List.length_cons, List.length_cons]; omega
end
/-! ### ends gone over, each wire's first end kept, then both told as mates -/
section
variable {E W : Type} [DecidableEq E] [DecidableEq W]
def step (st : List (W × E) × List (E × E)) (x : E × W) : List (W × E) × List (E × E) :=
  match get1 st.1 x.2 with
  | some e0 => (st.1, put1 (put1 st.2 x.1 e0) e0 x.1)
  | none => (put1 st.1 x.2 x.1, st.2)
/-- ends differ, no wire has three -/
structure Ends (S : List (E × W)) : Prop where
  key : ∀ e w w', (e, w) ∈ S → (e, w') ∈ S → w = w'
  at2 : ∀ e1 e2 e3 w, (e1, w) ∈ S → (e2, w) ∈ S → (e3, w) ∈ S → e1 = e2 ∨ e1 = e3 ∨ e2 = e3
structure Sc (S : List (E × W)) (f : List (W × E)) (m : List (E × E)) : Prop where
  fs : ∀ w e, get1 f w = some e → (e, w) ∈ S
  fn : ∀ w, get1 f w = none → ∀ e, (e, w) ∉ S
  ms : ∀ e w e', (e, w) ∈ S → (e', w) ∈ S → e ≠ e' → get1 m e = some e'
theorem Sc.nil : Sc ([] : List (E × W)) [] [] := ⟨(fun _ _ h => by cases h), (fun _ _ _ h => by cases h), fun _ _ _ h => by cases h⟩
theorem Sc.snoc {S : List (E × W)} {f : List (W × E)} {m : List (E × E)} (h : Sc S f m) {x : E × W} (hx : ∀ w, (x.1, w) ∉ S) (es : Ends (S ++ [x])) : Sc (S ++ [x]) (step (f, m) x).1 (step (f, m) x).2 := by
  obtain ⟨e, w⟩ := x
  have mem : ∀ y : E × W, y ∈ S ++ [(e, w)] ↔ y ∈ S ∨ y = (e, w) := fun y => by simp
  have old : ∀ y, y ∈ S → y ∈ S ++ [(e, w)] := fun y hy => (mem y).mpr (.inl hy)
  have new : (e, w) ∈ S ++ [(e, w)] := (mem _).mpr (.inr rfl)
  cases hf : get1 f w with
  | some e0 =>
    have m0 := h.fs w e0 hf
    have ne : e0 ≠ e := fun z => hx w (by rw [← z]; exact m0)
    have st : step (f, m) (e, w) = (f, put1 (put1 m e e0) e0 e) := by
      unfold step
      simp only [hf]
    rw [st]
    refine ⟨fun w' e' g => old _ (h.fs w' e' g), fun w' g e' z => ?_, fun a v b ha hb hab => ?_⟩
    · rcases (mem _).mp z with z | z
      · exact h.fn w' g e' z
      · cases z
        rw [hf] at g
        cases g
    · simp only
      rw [get1_put1, get1_put1]
      rcases (mem _).mp ha with ha' | ha'
      · rcases (mem _).mp hb with hb' | hb'
        · have n1 : ¬ e0 = a := fun z => by
            subst z
            have := es.key _ _ _ ha (old _ m0)
            subst this
            rcases es.at2 _ _ _ _ (old _ m0) (old _ hb') new with z | z | z
            · exact hab z
            · exact ne z
            · exact hx _ (by rw [← z]; exact hb')
          have n2 : ¬ e = a := fun z => hx _ (by rw [z]; exact ha')
          rw [if_neg n1, if_neg n2]
          exact h.ms a v b ha' hb' hab
        · cases hb'
          have : a = e0 := by
            rcases es.at2 _ _ _ _ ha new (old _ m0) with z | z | z
            · exact absurd z hab
            · exact z
            · exact absurd z.symm ne
          rw [if_pos this.symm]
      · cases ha'
        rw [if_neg ne, if_pos rfl]
        rcases (mem _).mp hb with hb' | hb'
        · rcases es.at2 _ _ _ _ new hb (old _ m0) with z | z | z
          · exact absurd z hab
          · exact absurd z.symm ne
          · rw [z]
        · cases hb'
          exact absurd rfl hab
  | none =>
    have st : step (f, m) (e, w) = (put1 f w e, m) := by
      unfold step
      simp only [hf]
    rw [st]
    refine ⟨fun w' e' g => ?_, fun w' g e' z => ?_, fun a v b ha hb hab => ?_⟩
    · simp only at g
      rw [get1_put1] at g
      by_cases q : w = w'
      · rw [if_pos q] at g
        cases g
        rw [← q]
        exact new
      · rw [if_neg q] at g
        exact old _ (h.fs w' e' g)
    · simp only at g
      rw [get1_put1] at g
      by_cases q : w = w'
      · rw [if_pos q] at g
        cases g
      · rw [if_neg q] at g
        rcases (mem _).mp z with z | z
        · exact h.fn w' g e' z
        · cases z
          exact q rfl
    · rcases (mem _).mp ha with ha' | ha' <;> rcases (mem _).mp hb with hb' | hb'
      · exact h.ms a v b ha' hb' hab
      · cases hb'
        exact absurd ha' (h.fn w hf a)
      · cases ha'
        exact absurd hb' (h.fn w hf b)
      · cases ha'
        cases hb'
        exact absurd rfl hab
theorem Ends.sub {S S' : List (E × W)} (h : Ends S) (s : ∀ y ∈ S', y ∈ S) : Ends S' :=
  ⟨fun e w w' a b => h.key e w w' (s _ a) (s _ b), fun e1 e2 e3 w a b c => h.at2 e1 e2 e3 w (s _ a) (s _ b) (s _ c)⟩
theorem step_len {f : List (W × E)} {m : List (E × E)} {x : E × W} : (step (f, m) x).1.length ≤ f.length + 1 ∧ (step (f, m) x).2.length ≤ m.length + 2 := by
  unfold step
  cases hf : get1 f x.2 with
  | some e0 =>
    simp only [hf]
    have a := put1_len (k := x.1) (v := e0) (L := m)
    have b := put1_len (k := e0) (v := x.1) (L := put1 m x.1 e0)
    omega
  | none =>
    simp only [hf]
    have a := put1_len (k := x.2) (v := x.1) (L := f)
    omega
end
/-! ### going round -/
def itr {C : Type} (f : C → C) : Nat → C → C
  | 0, c => c
  | n + 1, c => f (itr f n c)
theorem itr_add {C : Type} {f : C → C} {c : C} {m : Nat} : ∀ n, itr f (n + m) c = itr f n (itr f m c)
  | 0 => by rw [Nat.zero_add]; rfl
  | n + 1 => by
    rw [show n + 1 + m = n + m + 1 by omega]
    show f _ = f _
    rw [itr_add n]
theorem nodup_le {C : Type} [DecidableEq C] : ∀ {l m : List C}, l.Nodup → (∀ x ∈ l, x ∈ m) → l.length ≤ m.length
  | [], _, _, _ => Nat.zero_le _
  | x :: l, m, h, s => by
    rw [List.nodup_cons] at h
    have hm := s x List.mem_cons_self
    have ih := nodup_le (l := l) (m := m.erase x) h.2 fun y hy => (List.mem_erase_of_ne (fun z => h.1 (by rw [← z]; exact hy))).mpr (s y (List.mem_cons_of_mem _ hy))
    have := List.length_erase_of_mem hm
    have := List.length_pos_of_mem hm
    rw [List.length_cons]
    omega
section
variable {C : Type} [DecidableEq C] {f : C → C} {Cs : List C}
theorem itr_in (cl : ∀ c ∈ Cs, f c ∈ Cs) {c : C} (h : c ∈ Cs) : ∀ n, itr f n c ∈ Cs
  | 0 => h
  | n + 1 => cl _ (itr_in cl h n)
theorem itr_back (cl : ∀ c ∈ Cs, f c ∈ Cs) (inj : ∀ a ∈ Cs, ∀ b ∈ Cs, f a = f b → a = b) {c : C} (h : c ∈ Cs) : ∀ {i j : Nat}, i ≤ j → itr f i c = itr f j c → itr f (j - i) c = c
  | 0, j, _, e => e.symm
  | i + 1, j, hij, e => by
    obtain ⟨j', rfl⟩ : ∃ j', j = j' + 1 := ⟨j - 1, by omega⟩
    have := itr_back cl inj h (i := i) (j := j') (by omega) (inj _ (itr_in cl h i) _ (itr_in cl h j') e)
    rw [show j' + 1 - (i + 1) = j' - i by omega]
    exact this
/-- an injective walk in a finite set comes back -/
theorem comes_back (cl : ∀ c ∈ Cs, f c ∈ Cs) (inj : ∀ a ∈ Cs, ∀ b ∈ Cs, f a = f b → a = b) {c : C} (h : c ∈ Cs) : ∃ m, 1 ≤ m ∧ m ≤ Cs.length ∧ itr f m c = c ∧ ∀ j, 1 ≤ j → j < m → itr f j c ≠ c := by
  have ex : ∃ m, 1 ≤ m ∧ m ≤ Cs.length ∧ itr f m c = c := by
    have nn : ¬ ((List.range (Cs.length + 1)).map fun i => itr f i c).Nodup := fun nd => by
      have := nodup_le nd fun x hx => by
        obtain ⟨i, _, rfl⟩ := List.mem_map.mp hx
        exact itr_in cl h i
      rw [List.length_map, List.length_range] at this
      omega
    rw [List.Nodup, List.pairwise_iff_getElem] at nn
    simp only [Classical.not_forall, Classical.not_not] at nn
    obtain ⟨i, j, hi, hj, hij, e⟩ := nn
    rw [List.length_map, List.length_range] at hi hj
    rw [List.getElem_map, List.getElem_map, List.getElem_range, List.getElem_range] at e
    exact ⟨j - i, by omega, by omega, itr_back cl inj h (Nat.le_of_lt hij) e⟩
  obtain ⟨m0, a0, b0, e0⟩ := ex
  have key : ∀ n, ∀ m, m ≤ n → 1 ≤ m → m ≤ Cs.length → itr f m c = c → ∃ m, 1 ≤ m ∧ m ≤ Cs.length ∧ itr f m c = c ∧ ∀ j, 1 ≤ j → j < m → itr f j c ≠ c := by
    intro n
    induction n with
    | zero => intro m h1 h2; omega
    | succ n ih =>
      intro m h1 h2 h3 h4
      by_cases q : ∃ j, 1 ≤ j ∧ j < m ∧ itr f j c = c
      · obtain ⟨j, q1, q2, q3⟩ := q
        exact ih j (by omega) q1 (by omega) q3
      · exact ⟨m, h2, h3, h4, fun j q1 q2 q3 => q ⟨j, q1, q2, q3⟩⟩
  exact key m0 m0 (Nat.le_refl _) a0 b0 e0
end
end Gn
namespace Gn
open PySem PySem.Spec PyProof.Rows L2 Rim Lp

/-! ### the ends of rows -/
section
variable {A W : Type} [DecidableEq A] [DecidableEq W]
def rowG (a : A) : Nat → List W → List ((A × Nat) × W)
  | _, [] => []
  | k, w :: r => ((a, k), w) :: rowG a (k + 1) r
def endsG (R : List (A × List W)) : List ((A × Nat) × W) := R.flatMap fun q => rowG q.1 0 q.2
theorem mem_row {a b : A} {i : Nat} {w : W} : ∀ {r : List W} {k : Nat}, ((b, i), w) ∈ rowG a k r ↔ b = a ∧ k ≤ i ∧ r[i - k]? = some w
  | [], k => by simp [rowG]
  | x :: r, k => by
    have ih := mem_row (a := a) (b := b) (i := i) (w := w) (r := r) (k := k + 1)
    unfold rowG
    rw [List.mem_cons, ih]
    constructor
    · rintro (h | ⟨h1, h2, h3⟩)
      · cases h
        exact ⟨rfl, Nat.le_refl _, by simp⟩
      · refine ⟨h1, by omega, ?_⟩
        rw [show i - k = (i - (k + 1)) + 1 by omega]
        simpa using h3
    · rintro ⟨h1, h2, h3⟩
      by_cases e : i = k
      · left
        subst e h1
        rw [Nat.sub_self] at h3
        have : x = w := by simpa using h3
        rw [this]
      · right
        refine ⟨h1, by omega, ?_⟩
        rw [show i - k = (i - (k + 1)) + 1 by omega] at h3
        simpa using h3
theorem mem_ends {R : List (A × List W)} {a : A} {i : Nat} {w : W} : ((a, i), w) ∈ endsG R ↔ ∃ r, (a, r) ∈ R ∧ r[i]? = some w := by
  unfold endsG
  rw [List.mem_flatMap]
  constructor
  · rintro ⟨q, h1, h2⟩
    obtain ⟨h3, _, h4⟩ := mem_row.mp h2
    exact ⟨q.2, by rw [h3]; exact h1, h4⟩
  · rintro ⟨r, h1, h2⟩
    exact ⟨(a, r), h1, mem_row.mpr ⟨rfl, Nat.zero_le _, h2⟩⟩
theorem row_cnt {a : A} {w : W} : ∀ {r : List W} {k : Nat}, (rowG a k r).countP (fun x => decide (x.2 = w)) = r.count w
  | [], _ => rfl
  | x :: r, k => by
    unfold rowG
    rw [List.countP_cons, row_cnt, List.count_cons]
    by_cases e : x = w <;> simp [e]
theorem ends_cnt {w : W} : ∀ {R : List (A × List W)}, (endsG R).countP (fun x => decide (x.2 = w)) = (R.map fun q => q.2.count w).sum
  | [] => rfl
  | q :: R => by
    have ih := ends_cnt (w := w) (R := R)
    unfold endsG at ih ⊢
    rw [List.flatMap_cons, List.countP_append, ih, row_cnt, List.map_cons, List.sum_cons]
theorem row_nd {a : A} : ∀ {r : List W} {k : Nat}, ((rowG a k r).map (·.1)).Nodup
  | [], _ => List.nodup_nil
  | x :: r, k => by
    unfold rowG
    rw [List.map_cons, List.nodup_cons]
    refine ⟨fun h => ?_, row_nd⟩
    obtain ⟨y, h1, h2⟩ := List.mem_map.mp h
    obtain ⟨⟨b, i⟩, w⟩ := y
    cases h2
    have := (mem_row.mp h1).2.1
    omega
theorem ends_nd : ∀ {R : List (A × List W)}, (R.map (·.1)).Nodup → ((endsG R).map (·.1)).Nodup
  | [], _ => List.nodup_nil
  | q :: R, h => by
    rw [List.map_cons, List.nodup_cons] at h
    have ih := ends_nd h.2
    unfold endsG at ih ⊢
    rw [List.flatMap_cons, List.map_append, List.nodup_append]
    refine ⟨row_nd, ih, fun x hx y hy e => ?_⟩
    subst e
    obtain ⟨⟨⟨b, i⟩, w⟩, h1, rfl⟩ := List.mem_map.mp hx
    obtain ⟨⟨⟨b', i'⟩, w'⟩, h2, h3⟩ := List.mem_map.mp hy
    cases h3
    obtain ⟨e1, _⟩ := mem_row.mp h1
    obtain ⟨r, e2, _⟩ := mem_ends.mp (show ((b, i), w') ∈ endsG R from h2)
    exact h.1 (List.mem_map.mpr ⟨_, e2, e1⟩)
theorem nd_of {S : List ((A × Nat) × W)} (h : (S.map (·.1)).Nodup) : S.Nodup := by
  rw [List.Nodup, List.pairwise_map] at h
  exact h.imp fun hab z => hab (by rw [z])
theorem key_of {S : List ((A × Nat) × W)} (h : (S.map (·.1)).Nodup) {e : A × Nat} {w w' : W} (a : (e, w) ∈ S) (b : (e, w') ∈ S) : w = w' := by
  have h1 := get1_of (k := e) (v := w) h a
  have h2 := get1_of (k := e) (v := w') h b
  rw [h1] at h2
  exact Option.some.inj h2
theorem ends_of_cnt {R : List (A × List W)} (h : (R.map (·.1)).Nodup) (c : ∀ w, (R.map fun q => q.2.count w).sum ≤ 2) : Ends (endsG R) := by
  have nd := ends_nd h
  refine ⟨fun e w w' a b => key_of nd a b, fun e1 e2 e3 w a b c' => ?_⟩
  by_cases h1 : e1 = e2
  · exact .inl h1
  by_cases h2 : e1 = e3
  · exact .inr (.inl h2)
  by_cases h3 : e2 = e3
  · exact .inr (.inr h3)
  have z := c w
  rw [← ends_cnt, List.countP_eq_length_filter] at z
  have l := nodup_le (l := [(e1, w), (e2, w), (e3, w)]) (m := (endsG R).filter fun x => decide (x.2 = w)) (by simp [h1, h2, h3]) fun x hx => by
    rw [List.mem_filter]
    simp only [List.mem_cons, List.not_mem_nil, or_false] at hx
    rcases hx with rfl | rfl | rfl
    · exact ⟨a, by simp⟩
    · exact ⟨b, by simp⟩
    · exact ⟨c', by simp⟩
  simp only [List.length_cons, List.length_nil] at l
  omega
theorem two_ends {R : List (A × List W)} {w : W} (h : (R.map (·.1)).Nodup) (c : (R.map fun q => q.2.count w).sum = 2) : ∃ e1 e2, (endsG R).filter (fun x => decide (x.2 = w)) = [(e1, w), (e2, w)] ∧ e1 ≠ e2 := by
  rw [← ends_cnt, List.countP_eq_length_filter] at c
  have nd := (nd_of (ends_nd h)).filter fun x => decide (x.2 = w)
  obtain ⟨x, y, hf⟩ : ∃ x y, (endsG R).filter (fun x => decide (x.2 = w)) = [x, y] := by
    generalize (endsG R).filter (fun x => decide (x.2 = w)) = F at c
    match F, c with
    | [x, y], _ => exact ⟨x, y, rfl⟩
  have mx : x ∈ (endsG R).filter (fun x => decide (x.2 = w)) := by rw [hf]; exact List.mem_cons_self
  have my : y ∈ (endsG R).filter (fun x => decide (x.2 = w)) := by rw [hf]; exact List.mem_cons_of_mem _ List.mem_cons_self
  have ex : x.2 = w := by simpa using (List.mem_filter.mp mx).2
  have ey : y.2 = w := by simpa using (List.mem_filter.mp my).2
  rw [hf] at nd
  have ne : x ≠ y := by simpa using nd
  obtain ⟨x1, x2⟩ := x
  obtain ⟨y1, y2⟩ := y
  simp only at ex ey
  subst ex
  subst ey
  exact ⟨x1, y1, hf, fun z => ne (by rw [z])⟩
theorem other_end {R : List (A × List W)} {w : W} {e : A × Nat} (h : (R.map (·.1)).Nodup) (c : (R.map fun q => q.2.count w).sum = 2) (he : (e, w) ∈ endsG R) : ∃ e', (e', w) ∈ endsG R ∧ e ≠ e' := by
  obtain ⟨e1, e2, hf, ne⟩ := two_ends h c
  have m1 : (e1, w) ∈ endsG R := (List.mem_filter.mp (show (e1, w) ∈ (endsG R).filter fun x => decide (x.2 = w) by rw [hf]; exact List.mem_cons_self)).1
  have m2 : (e2, w) ∈ endsG R := (List.mem_filter.mp (show (e2, w) ∈ (endsG R).filter fun x => decide (x.2 = w) by rw [hf]; exact List.mem_cons_of_mem _ List.mem_cons_self)).1
  by_cases q : e = e1
  · exact ⟨e2, m2, by rw [q]; exact ne⟩
  · exact ⟨e1, m1, q⟩
/-- the part of the scan that is done -/
theorem rowG_snoc {a : A} {w : W} : ∀ {r : List W} {k : Nat}, rowG a k (r ++ [w]) = rowG a k r ++ [((a, k + r.length), w)]
  | [], k => rfl
  | x :: r, k => by
    rw [List.cons_append]
    unfold rowG
    rw [rowG_snoc, List.length_cons, show k + 1 + r.length = k + (r.length + 1) by omega]
    rfl
theorem ends_app {R R' : List (A × List W)} : endsG (R ++ R') = endsG R ++ endsG R' := List.flatMap_append ..
theorem row_sub {a : A} {x : (A × Nat) × W} : ∀ {r : List W} {i : Nat} {k : Nat}, x ∈ rowG a k (r.take i) → x ∈ rowG a k r
  | [], i, k, h => by simpa using h
  | y :: r, 0, k, h => by cases h
  | y :: r, i + 1, k, h => by
    rw [List.take_succ_cons] at h
    unfold rowG at h ⊢
    rw [List.mem_cons] at h ⊢
    exact h.imp id row_sub
end
/-! ### mates -/
section
variable {A W : Type} [DecidableEq A] [DecidableEq W]
/-- each wire of the rows has two ends, and m tells of each the other one -/
structure Mates (R : List (A × List W)) (m : List ((A × Nat) × (A × Nat))) : Prop where
  keys : (R.map (·.1)).Nodup
  two : ∀ e w, (e, w) ∈ endsG R → (R.map fun q => q.2.count w).sum = 2
  le : ∀ w, (R.map fun q => q.2.count w).sum ≤ 2
  ms : ∀ e w e', (e, w) ∈ endsG R → (e', w) ∈ endsG R → e ≠ e' → get1 m e = some e'
variable {R : List (A × List W)} {m : List ((A × Nat) × (A × Nat))}
theorem Mates.get (h : Mates R m) {e : A × Nat} {w : W} (he : (e, w) ∈ endsG R) : ∃ e', get1 m e = some e' ∧ (e', w) ∈ endsG R ∧ e ≠ e' := by
  obtain ⟨e', h1, h2⟩ := other_end h.keys (h.two e w he) he
  exact ⟨e', h.ms e w e' he h1 h2, h1, h2⟩
theorem Mates.inj (h : Mates R m) {e e' f : A × Nat} {w w' : W} (he : (e, w) ∈ endsG R) (he' : (e', w') ∈ endsG R) (a : get1 m e = some f) (b : get1 m e' = some f) : e = e' := by
  obtain ⟨f1, g1, g2, g3⟩ := h.get he
  obtain ⟨f2, k1, k2, k3⟩ := h.get he'
  rw [a] at g1
  rw [b] at k1
  cases g1
  cases k1
  have nd := ends_nd h.keys
  have ew := key_of nd g2 k2
  subst ew
  rcases (ends_of_cnt h.keys h.le).at2 _ _ _ _ he he' g2 with z | z | z
  · exact z
  · exact absurd z g3
  · exact absurd z k3
end
/-! ### corners, and the next one round a region; points are numbers here -/
abbrev TL := List (List Nat)
def numb (L : TL) : List (Nat × List Nat) := L.zipIdx.map fun q => (q.2, q.1)
theorem mem_numb {L : TL} {p : Nat} {r : List Nat} : (p, r) ∈ numb L ↔ L[p]? = some r := by
  unfold numb
  rw [List.mem_map]
  constructor
  · rintro ⟨q, h1, h2⟩
    cases h2
    exact List.mk_mem_zipIdx_iff_getElem?.mp h1
  · intro h
    exact ⟨(r, p), List.mk_mem_zipIdx_iff_getElem?.mpr h, rfl⟩
theorem numb_keys {L : TL} : (numb L).map (·.1) = List.range L.length := by
  unfold numb
  rw [List.map_map]
  show L.zipIdx.map Prod.snd = _
  rw [List.zipIdx_map_snd, List.range_eq_range']
theorem numb_nd {L : TL} : ((numb L).map (·.1)).Nodup := by
  rw [numb_keys]
  exact List.nodup_range
def tot (L : TL) (w : Nat) : Nat := (L.map fun r => r.count w).sum
theorem numb_cnt {L : TL} {w : Nat} : ((numb L).map fun q => q.2.count w).sum = tot L w := by
  unfold numb tot
  rw [List.map_map]
  have : (L.zipIdx.map ((fun q : Nat × List Nat => q.2.count w) ∘ fun q : List Nat × Nat => (q.2, q.1))) = (L.zipIdx.map Prod.fst).map fun r => r.count w := by rw [List.map_map]; rfl
  rw [this, List.zipIdx_map_fst]
def cornersL (P : Nat) (L : TL) : List (Nat × Nat) := (numb L).flatMap fun q => (List.range (q.2.length + if q.1 < P then 1 else 0)).map fun k => (q.1, k)
theorem mem_corners {P : Nat} {L : TL} {p k : Nat} : (p, k) ∈ cornersL P L ↔ ∃ r, L[p]? = some r ∧ k < r.length + if p < P then 1 else 0 := by
  unfold cornersL
  rw [List.mem_flatMap]
  constructor
  · rintro ⟨q, h1, h2⟩
    obtain ⟨i, h3, h4⟩ := List.mem_map.mp h2
    cases h4
    exact ⟨q.2, mem_numb.mp h1, List.mem_range.mp h3⟩
  · rintro ⟨r, h1, h2⟩
    exact ⟨(p, r), mem_numb.mpr h1, List.mem_map.mpr ⟨k, List.mem_range.mpr h2, rfl⟩⟩
def rowL (L : TL) (p : Nat) : List Nat := L.getD p []
theorem rowL_of {L : TL} {p : Nat} {r : List Nat} (h : L[p]? = some r) : rowL L p = r := by
  unfold rowL
  rw [List.getD_eq_getElem?_getD, h]
  rfl
abbrev MD := List ((Nat × Nat) × (Nat × Nat))
/-- the corner behind -/
def nx (P : Nat) (L : TL) (m : MD) (c : Nat × Nat) : Nat × Nat :=
  if c.2 = (rowL L c.1).length then ((c.1 + P - 1) % P, 0)
  else match get1 m c with
    | some e => if e.1 < P then (e.1, e.2 + 1) else (e.1, (e.2 + 1) % (rowL L e.1).length)
    | none => (0, 0)
section
variable {P : Nat} {L : TL} {m : MD}
theorem corner_end {p k : Nat} (h : (p, k) ∈ cornersL P L) (hk : k ≠ (rowL L p).length) : ∃ w, ((p, k), w) ∈ endsG (numb L) := by
  obtain ⟨r, h1, h2⟩ := mem_corners.mp h
  rw [rowL_of h1] at hk
  have hk2 : k < r.length := by
    by_cases q : p < P
    · rw [if_pos q] at h2; omega
    · rw [if_neg q] at h2; omega
  exact ⟨r[k], mem_ends.mpr ⟨r, mem_numb.mpr h1, List.getElem?_eq_getElem hk2⟩⟩
theorem end_at {p k w : Nat} (h : ((p, k), w) ∈ endsG (numb L)) : ∃ r, L[p]? = some r ∧ k < r.length ∧ r[k]? = some w := by
  obtain ⟨r, h1, h2⟩ := mem_ends.mp h
  refine ⟨r, mem_numb.mp h1, ?_, h2⟩
  rcases Nat.lt_or_ge k r.length with z | z
  · exact z
  · rw [List.getElem?_eq_none z] at h2
    cases h2
theorem corner_rim {p k : Nat} (h : (p, k) ∈ cornersL P L) (hk : k = (rowL L p).length) : p < P := by
  obtain ⟨r, h1, h2⟩ := mem_corners.mp h
  rw [rowL_of h1] at hk
  rcases Nat.lt_or_ge p P with q | q
  · exact q
  · rw [if_neg (by omega)] at h2; omega
theorem nx_in (hm : Mates (numb L) m) (hP : 1 ≤ P) (hL : P ≤ L.length) : ∀ c ∈ cornersL P L, nx P L m c ∈ cornersL P L := by
  rintro ⟨p, k⟩ h
  unfold nx
  by_cases q : k = (rowL L p).length
  · rw [if_pos q]
    have l := corner_rim h q
    have l2 := Nat.mod_lt (p + P - 1) (show P > 0 by omega)
    have l3 : (p + P - 1) % P < L.length := by omega
    refine mem_corners.mpr ⟨L[(p + P - 1) % P]'l3, List.getElem?_eq_getElem l3, ?_⟩
    rw [if_pos l2]
    omega
  · rw [if_neg q]
    obtain ⟨w, he⟩ := corner_end h q
    obtain ⟨⟨q', j⟩, g1, g2, g3⟩ := hm.get he
    rw [g1]
    obtain ⟨r, h1, h2, h3⟩ := end_at g2
    by_cases l : q' < P
    · simp only
      rw [if_pos l]
      exact mem_corners.mpr ⟨r, h1, by rw [if_pos l]; omega⟩
    · simp only
      rw [if_neg l, rowL_of h1]
      exact mem_corners.mpr ⟨r, h1, by rw [if_neg l]; exact Nat.mod_lt _ (by omega)⟩
theorem mod_succ_inj {a b n : Nat} (ha : a < n) (hb : b < n) (h : (a + 1) % n = (b + 1) % n) : a = b := by
  rcases Nat.lt_or_ge (a + 1) n with x | x <;> rcases Nat.lt_or_ge (b + 1) n with y | y
  · rw [Nat.mod_eq_of_lt x, Nat.mod_eq_of_lt y] at h; omega
  · rw [Nat.mod_eq_of_lt x, show b + 1 = n by omega, Nat.mod_self] at h; omega
  · rw [Nat.mod_eq_of_lt y, show a + 1 = n by omega, Nat.mod_self] at h; omega
  · omega
theorem mod_pred_inj {a b n : Nat} (ha : a < n) (hb : b < n) (h : (a + n - 1) % n = (b + n - 1) % n) : a = b := by
  have f : ∀ x, x < n → (x + n - 1) % n = if x = 0 then n - 1 else x - 1 := fun x hx => by
    split
    · rw [Nat.mod_eq_of_lt (by omega)]; omega
    · rw [show x + n - 1 = (x - 1) + n by omega, Nat.add_mod_right, Nat.mod_eq_of_lt (by omega)]
  rw [f a ha, f b hb] at h
  split at h <;> split at h <;> omega
theorem nx_inj (hm : Mates (numb L) m) : ∀ a ∈ cornersL P L, ∀ b ∈ cornersL P L, nx P L m a = nx P L m b → a = b := by
  rintro ⟨p, k⟩ h ⟨p', k'⟩ h' e
  have lim : ∀ {p k : Nat}, (p, k) ∈ cornersL P L → k ≠ (rowL L p).length → ∃ w q j, ((p, k), w) ∈ endsG (numb L) ∧ get1 m (p, k) = some (q, j) ∧ j < (rowL L q).length ∧ nx P L m (p, k) = if q < P then (q, j + 1) else (q, (j + 1) % (rowL L q).length) := fun {p k} h q => by
    obtain ⟨w, he⟩ := corner_end h q
    obtain ⟨⟨q', j⟩, g1, g2, g3⟩ := hm.get he
    obtain ⟨r, h1, h2, h3⟩ := end_at g2
    refine ⟨w, q', j, he, g1, by rw [rowL_of h1]; exact h2, ?_⟩
    unfold nx
    rw [if_neg q, g1]
  by_cases q : k = (rowL L p).length
  · have l := corner_rim h q
    have l2 := Nat.mod_lt (p + P - 1) (show P > 0 by omega)
    have e1 : nx P L m (p, k) = ((p + P - 1) % P, 0) := by
      unfold nx
      rw [if_pos q]
    by_cases q' : k' = (rowL L p').length
    · have l' := corner_rim h' q'
      have e2 : nx P L m (p', k') = ((p' + P - 1) % P, 0) := by
        unfold nx
        rw [if_pos q']
      rw [e1, e2] at e
      have := mod_pred_inj l l' (congrArg Prod.fst e)
      subst this
      rw [q, q']
    · obtain ⟨w, a, j, _, _, lj, e2⟩ := lim h' q'
      rw [e1, e2] at e
      split at e
      · have := congrArg Prod.snd e
        simp at this
      · have := congrArg Prod.fst e
        simp only at this
        omega
  · obtain ⟨w, a, j, he, g, lj, e1⟩ := lim h q
    by_cases q' : k' = (rowL L p').length
    · have l' := corner_rim h' q'
      have l2 := Nat.mod_lt (p' + P - 1) (show P > 0 by omega)
      have e2 : nx P L m (p', k') = ((p' + P - 1) % P, 0) := by
        unfold nx
        rw [if_pos q']
      rw [e1, e2] at e
      split at e
      · have := congrArg Prod.snd e
        simp at this
      · have := congrArg Prod.fst e
        simp only at this
        omega
    · obtain ⟨w', a', j', he', g', lj', e2⟩ := lim h' q'
      rw [e1, e2] at e
      have key : a = a' ∧ j = j' := by
        split at e <;> split at e
        · have z1 := congrArg Prod.fst e
          have z2 := congrArg Prod.snd e
          simp only at z1 z2
          omega
        · have z1 := congrArg Prod.fst e
          simp only at z1
          omega
        · have z1 := congrArg Prod.fst e
          simp only at z1
          omega
        · have z1 := congrArg Prod.fst e
          have z2 := congrArg Prod.snd e
          simp only at z1 z2
          subst z1
          exact ⟨rfl, mod_succ_inj lj lj' z2⟩
      obtain ⟨rfl, rfl⟩ := key
      exact hm.inj he he' g g'
/-- the corners of a region, from one on -/
theorem region_ex (hm : Mates (numb L) m) (hP : 1 ≤ P) (hL : P ≤ L.length) {c : Nat × Nat} (h : c ∈ cornersL P L) : ∃ n, 1 ≤ n ∧ n ≤ (cornersL P L).length ∧ itr (nx P L m) n c = c ∧ ∀ j, 1 ≤ j → j < n → itr (nx P L m) j c ≠ c :=
  comes_back (nx_in hm hP hL) (nx_inj hm) h
end
end Gn
namespace Gn
open PySem PySem.Spec PyProof.Rows L2 Rim Lp
section
variable {n k : Nat}
/-! ### names -/
def signs : Str := "abcdefghijklmnopqrstuvwxyz0123456789"
def cg : List Nat := signs.cps.toList
theorem cg_len : cg.length = 36 := by decide +kernel
theorem cg_nd : cg.Nodup := by decide +kernel
def ch (i : Nat) : Nat := cg.getD i 0
theorem ch_get {i : Nat} (h : i < 36) : cg[i]? = some (ch i) := by
  unfold ch
  rw [List.getD_eq_getElem?_getD, List.getElem?_eq_getElem (by rw [cg_len]; exact h)]
  rfl
theorem ch_inj {i j : Nat} (hi : i < 36) (hj : j < 36) (h : ch i = ch j) : i = j := by
  have a := ch_get hi
  have b := ch_get hj
  rw [h] at a
  have li : i < cg.length := by rw [cg_len]; exact hi
  have lj : j < cg.length := by rw [cg_len]; exact hj
  rw [List.getElem?_eq_getElem li] at a
  rw [List.getElem?_eq_getElem lj] at b
  have e := (Option.some.inj a).trans (Option.some.inj b).symm
  have pw := List.pairwise_iff_getElem.mp cg_nd
  rcases Nat.lt_trichotomy i j with z | z | z
  · exact absurd e (pw i j li lj z)
  · exact z
  · exact absurd e.symm (pw j i lj li z)
def mk (cs : List Nat) : Str := ⟨cs.toArray⟩
theorem mk_inj {a b : List Nat} (h : mk a = mk b) : a = b := by
  unfold mk at h
  injection h with h
  injection h
theorem mk_app {a b : List Nat} : mk a ++ mk b = mk (a ++ b) := by
  show Str.append _ _ = _
  unfold mk Str.append
  simp
theorem mk_len {a : List Nat} : (mk a).length = a.length := by
  show a.toArray.size = _
  simp
abbrev sO (s : Str) : O := .fz (.str s)
theorem i_strx {s : Str} {i : Int} : itemO (sO s) (.int i) = if strRoom s.length then (atI s.cps.toList i).map fun c => sO ⟨#[c]⟩ else none := by
  show (match (if strRoom s.length then (atI s.cps.toList i).map fun c => sO ⟨#[c]⟩ else none) with | some o => some o | none => dictO (sO s) (.int i)) = _
  split
  · rename_i e
    rw [e]
  · rename_i e
    rw [e]
    rfl
theorem cd64 : cdivB 64 = true := by decide
theorem cd7 : cdivB 7 = true := by decide
theorem cd8 : cdivB 8 = true := by decide
theorem cd2 : cdivB 2 = true := by decide
theorem cd3 : cdivB 3 = true := by decide
theorem cd6 : cdivB 6 = true := by decide
theorem cd16 : cdivB 16 = true := by decide
theorem sign_at {i : Int} (h0 : 0 ≤ i) (h : i < 36) : itemO (sO "abcdefghijklmnopqrstuvwxyz0123456789") (.int i) = some (sO (mk [ch i.toNat])) := by
  have e : (("abcdefghijklmnopqrstuvwxyz0123456789" : Str)).cps.toList = cg := rfl
  have r : strRoom (("abcdefghijklmnopqrstuvwxyz0123456789" : Str)).length = true := by decide +kernel
  rw [i_strx, if_pos r, e, atI_pos h0, ch_get (by omega)]
  rfl
theorem o_addS {x y : Str} (h : x.length + y.length ≤ 1000000) : binO .add (sO x) (sO y) = some (sO (x ++ y)) := by
  have h2 : strRoom (x.length + y.length) = true := Nat.ble_eq_true_of_le (room_of h)
  simp only [binO]
  rw [if_pos h2]
theorem mul_name {c : Nat} {j : Int} (h1 : 1 ≤ j) (h2 : j ≤ 8) : binO .mul (sO (mk [c])) (iO j) = some (sO (mk (List.replicate j.toNat c))) := by
  have key : j = 1 ∨ (2 ≤ j ∧ j ≤ 8) := by omega
  rcases key with rfl | ⟨h3, h4⟩
  · rfl
  · have n1 : Nat.ble j.natAbs 1 = false := by
      cases h : Nat.ble j.natAbs 1 with
      | false => rfl
      | true => have := Nat.le_of_ble_eq_true h; omega
    have l : (mk [c]).length = 1 := rfl
    have cd : (decide (1 < j) && decide (j < 1000) && decide (0 < (mk [c]).length) && Nat.ble ((mk [c]).length * j.toNat) 1000) = true := by
      rw [l, decide_eq_true (by omega), decide_eq_true (by omega), Nat.ble_eq_true_of_le (by omega)]
      rfl
    have e : strMul (mk [c]) j.toNat = mk (List.replicate j.toNat c) := by
      unfold strMul mk
      have : (List.replicate j.toNat [c]).flatten = List.replicate j.toNat c := by
        generalize j.toNat = m
        induction m with
        | zero => rfl
        | succ m ih => rw [List.replicate_succ, List.flatten_cons, ih, List.replicate_succ]; rfl
      simp only [this]
    simp only [binO]
    rw [n1, if_neg (by decide), if_pos cd, e]
theorem ch_lt (i : Nat) : ch i < 200 := by
  unfold ch
  rw [List.getD_eq_getElem?_getD]
  rcases Nat.lt_or_ge i cg.length with h | h
  · rw [List.getElem?_eq_getElem h]
    have z : ∀ c ∈ cg, c < 200 := by decide +kernel
    exact z _ (List.getElem_mem h)
  · rw [List.getElem?_eq_none h]
    decide
theorem ok_mk {cs : List Nat} (h : ∀ c ∈ cs, c < 200) : PyData.strOk (mk cs) = true := by
  unfold PyData.strOk mk
  rw [← Array.all_toList, List.all_eq_true]
  intro c hc
  have := h c hc
  rw [decide_eq_true_iff]
  omega
theorem perm_lift {α β : Type} (f : α → β) {m nn : List β} (h : m.Perm nn) : ∀ l : List α, l.map f = nn → ∃ l' : List α, l'.Perm l ∧ l'.map f = m := by
  induction h with
  | nil => exact fun l e => ⟨l, .refl _, e⟩
  | cons x h ih =>
    rintro (_ | ⟨a, l⟩) e
    · cases e
    · rw [List.map_cons] at e
      injection e with e1 e2
      obtain ⟨l', p, q⟩ := ih l e2
      exact ⟨a :: l', p.cons a, by rw [List.map_cons, q, e1]⟩
  | swap x y t =>
    rintro (_ | ⟨a, _ | ⟨b, l⟩⟩) e
    · cases e
    · simp at e
    · simp only [List.map_cons, List.cons.injEq] at e
      exact ⟨b :: a :: l, List.Perm.swap _ _ _, by simp [e.1, e.2.1, e.2.2]⟩
  | trans h1 h2 ih1 ih2 =>
    intro l e
    obtain ⟨l1, p1, q1⟩ := ih2 l e
    obtain ⟨l2, p2, q2⟩ := ih1 l1 q1
    exact ⟨l2, p2.trans p1, q2⟩
theorem perm_at {α : Type} : ∀ {xs : List α} {j : Nat} (h : j < xs.length), (xs[j] :: xs.eraseIdx j).Perm xs
  | x :: xs, 0, _ => .refl _
  | x :: xs, j + 1, h => by
    have ih := perm_at (xs := xs) (j := j) (by simpa using h)
    rw [List.getElem_cons_succ, List.eraseIdx_cons_succ]
    exact (List.Perm.swap _ _ _).trans (ih.cons x)
theorem pop_at {os : List O} {j : Nat} {x : O} (h : os[j]? = some x) (hl : os.length < 1000) : mutO .popAt os [iO j] = some (os.eraseIdx j, x) := by
  have hj : j < os.length := by
    rcases Nat.lt_or_ge j os.length with z | z
    · exact z
    · rw [List.getElem?_eq_none z] at h; cases h
  have b1 : (-(2 ^ 63) : Int) ≤ (j : Int) := Int.le_trans (show (-(2 ^ 63) : Int) ≤ 0 from by decide +kernel) (by omega)
  have b2 : (j : Int) < 2 ^ 63 := Int.lt_of_lt_of_le (show (j : Int) < 1000 by omega) (by decide +kernel)
  have e : seqIndex? (j : Int) os.length = some j := by
    rw [seqIx (by omega) (by omega), Int.toNat_natCast]
  simp only [mutO]
  rw [decide_eq_true b1, decide_eq_true b2, Bool.and_self, if_pos rfl, e]
  simp only [h]
theorem mut_nm {F : Fns} {e e1 : Rim.Env} {i : Nat} {w : Bool} {m : Mt} {es : Es} {os as os' : List O} {r : O} (he : e[i]? = some (some (.lst os))) (hq : qts es = true) (ha : evEs F es e = .ok as e1) (hm : mutO m os as = some (os', r)) : ev F w (.mut m (.nm i) es) e = .ok r (e.set i (some (.lst os'))) := by
  rw [ev_mut, getP_nm, he]
  show (if qts es then _ else _) = _
  rw [if_pos hq, ha, calm_ok_, bind_ok_, hm]
theorem rot_perm {ws : List Str} {t : Nat} : (ws.drop t ++ ws.take t).Perm ws := by
  have := List.perm_append_comm (l₁ := ws.drop t) (l₂ := ws.take t)
  rwa [List.take_append_drop] at this
theorem put_dk {F : Fns} {e e1 : Rim.Env} {i : Nat} {kE a : E} {kvs : List (Key × O)} {d : PyData} {kk : Key} {x : O} (ha : ev F false a e = .ok x e1) (he : e1[i]? = some (some (.dk kvs))) (hk : ev F false kE e1 = .ok (.fz d) e1) (hq : qt kE = true) (hd : keyOf d = some kk) (hl : kvs.length < sizeLine) :
    ex F n (.put (.nm i) kE a) e = .ok .nx (e1.set i (some (.dk (put1 kvs kk x)))) := by
  rw [ex_put, ha, bind_ok_, if_pos hq, getP_nm, he]
  simp only [hk, hd]
  rw [if_pos (decide_eq_true hl)]
theorem put_dt {F : Fns} {e e1 : Rim.Env} {i : Nat} {kE a : E} {kvs : List (List Key × O)} {d : PyData} {kk : List Key} {x : O} (ha : ev F false a e = .ok x e1) (he : e1[i]? = some (some (.dt kvs))) (hk : ev F false kE e1 = .ok (.fz d) e1) (hq : qt kE = true) (hd : keyTO d = some kk) (hl : kvs.length < sizeLine) :
    ex F n (.put (.nm i) kE a) e = .ok .nx (e1.set i (some (.dt (put1 kvs kk x)))) := by
  rw [ex_put, ha, bind_ok_, if_pos hq, getP_nm, he]
  simp only [hk, hd]
  rw [if_pos (decide_eq_true hl)]
theorem getP_dk {F : Fns} {e : Rim.Env} {i : Nat} {kE : E} {kvs : List (Key × O)} {s : Str} {x : O} (he : e[i]? = some (some (.dk kvs))) (hk : ev F false kE e = .ok (sO s) e) (hq : qt kE = true) (hg : get1 kvs (.inr s) = some x) :
    getP F (.ix (.nm i) kE) e = some (i, x, fun y => .dk (put1 kvs (.inr s) y)) := by
  rw [getP_ix, if_pos hq, getP_nm, he]
  simp only [hk, hg]
theorem keyOf_str {s : Str} : keyOf (.str s) = some (.inr s) := rfl

end
/-! ### names -/
def nameA (cs : List Nat) (spot first k : Nat) : List Nat := cs.take spot ++ ([ch ((first + 7 * k) % 36)] ++ cs.drop (spot + 1))
def nameB (first k : Nat) : List Nat := List.replicate (1 + k % 7) (ch first) ++ if 6 < k then [ch ((first + 1 + k / 7) % 36)] else []
def Sg (cs : List Nat) : Prop := ∀ c ∈ cs, ∃ i, i < 36 ∧ c = ch i
structure NmOk (m : Nat) (Ns : List Str) : Prop where
  len : Ns.length = m
  nd : Ns.Nodup
  sg : ∀ s ∈ Ns, ∃ cs, s = mk cs ∧ 1 ≤ cs.length ∧ cs.length ≤ 8 ∧ Sg cs
theorem nodup_map {α β : Type} {f : α → β} : ∀ {l : List α}, l.Nodup → (∀ a ∈ l, ∀ b ∈ l, f a = f b → a = b) → (l.map f).Nodup
  | [], _, _ => List.nodup_nil
  | x :: l, h, q => by
    rw [List.nodup_cons] at h
    rw [List.map_cons, List.nodup_cons]
    refine ⟨fun z => ?_, nodup_map h.2 fun a ha b hb => q a (List.mem_cons_of_mem _ ha) b (List.mem_cons_of_mem _ hb)⟩
    obtain ⟨y, h1, h2⟩ := List.mem_map.mp z
    have := q y (List.mem_cons_of_mem _ h1) x List.mem_cons_self h2
    exact h.1 (by rw [← this]; exact h1)
theorem namesA {cs : List Nat} {spot first m : Nat} (hs : spot < cs.length) (h8 : cs.length ≤ 8) (sg : Sg cs) (hm : m ≤ 36) : NmOk m ((List.range m).map fun k => mk (nameA cs spot first k)) := by
  have l : ∀ k, (nameA cs spot first k).length = cs.length := fun k => by
    unfold nameA
    rw [List.length_append, List.length_append, List.length_take, List.length_drop, List.length_singleton]
    omega
  refine ⟨by rw [List.length_map, List.length_range], nodup_map List.nodup_range fun a ha b hb e => ?_, fun s hs' => ?_⟩
  · have ha' := List.mem_range.mp ha
    have hb' := List.mem_range.mp hb
    have e1 := mk_inj e
    have g : ∀ k, (nameA cs spot first k)[spot]? = some (ch ((first + 7 * k) % 36)) := fun k => by
      unfold nameA
      rw [List.getElem?_append_right (by rw [List.length_take]; omega), List.length_take, show spot - min spot cs.length = 0 by omega]
      rfl
    have e2 := g a
    rw [e1, g b] at e2
    have := ch_inj (Nat.mod_lt _ (by decide)) (Nat.mod_lt _ (by decide)) (Option.some.inj e2)
    omega
  · obtain ⟨k, hk, rfl⟩ := List.mem_map.mp hs'
    refine ⟨_, rfl, by rw [l]; omega, by rw [l]; exact h8, fun c hc => ?_⟩
    unfold nameA at hc
    rcases List.mem_append.mp hc with z | z
    · exact sg c (List.mem_of_mem_take z)
    · rcases List.mem_append.mp z with z | z
      · rw [List.mem_singleton.mp z]
        exact ⟨_, Nat.mod_lt _ (by decide), rfl⟩
      · exact sg c (List.mem_of_mem_drop z)
theorem namesB {first m : Nat} (hf : first < 36) (hm : m ≤ 16) : NmOk m ((List.range m).map fun k => mk (nameB first k)) := by
  have l : ∀ k, (nameB first k).length = 1 + k % 7 + if 6 < k then 1 else 0 := fun k => by
    unfold nameB
    rw [List.length_append, List.length_replicate]
    split <;> rfl
  have la : ∀ k, (nameB first k).getLast? = some (if 6 < k then ch ((first + 1 + k / 7) % 36) else ch first) := fun k => by
    unfold nameB
    split
    · rw [List.getLast?_append]
      rfl
    · rw [List.append_nil, List.getLast?_replicate, if_neg (by omega)]
  refine ⟨by rw [List.length_map, List.length_range], nodup_map List.nodup_range fun a ha b hb e => ?_, fun s hs' => ?_⟩
  · have ha' := List.mem_range.mp ha
    have hb' := List.mem_range.mp hb
    have e1 := mk_inj e
    have e2 := l a
    rw [e1, l b] at e2
    have e3 := la a
    rw [e1, la b] at e3
    have e3 := Option.some.inj e3
    by_cases qa : 6 < a <;> by_cases qb : 6 < b
    · rw [if_pos qa, if_pos qb] at e3
      have := ch_inj (Nat.mod_lt _ (by decide)) (Nat.mod_lt _ (by decide)) e3
      rw [if_pos qa, if_pos qb] at e2
      omega
    · rw [if_pos qa, if_neg qb] at e3
      have := ch_inj hf (Nat.mod_lt _ (by decide)) e3
      omega
    · rw [if_neg qa, if_pos qb] at e3
      have := ch_inj (Nat.mod_lt _ (by decide)) hf e3
      omega
    · rw [if_neg qa, if_neg qb] at e2
      omega
  · obtain ⟨k, hk, rfl⟩ := List.mem_map.mp hs'
    have hk' := List.mem_range.mp hk
    refine ⟨_, rfl, by rw [l]; omega, by rw [l]; split <;> omega, fun c hc => ?_⟩
    unfold nameB at hc
    rcases List.mem_append.mp hc with z | z
    · rw [List.eq_of_mem_replicate z]
      exact ⟨first, hf, rfl⟩
    · split at z
      · rw [List.mem_singleton.mp z]
        exact ⟨_, Nat.mod_lt _ (by decide), rfl⟩
      · cases z
theorem NmOk.txs {m : Nat} {Ns : List Str} (h : NmOk m Ns) {s : Str} (hs : s ∈ Ns) : PyData.strOk s = true := by
  obtain ⟨cs, rfl, _, _, sg⟩ := h.sg s hs
  refine ok_mk fun c hc => ?_
  obtain ⟨i, _, rfl⟩ := sg c hc
  exact ch_lt i
/-! ### turns that grow -/
def insL (L : TL) (p k n : Nat) : TL := L.set p ((rowL L p).take k ++ ([n] ++ (rowL L p).drop k))
theorem get_set {α : Type} {L : List α} {p q : Nat} {r : α} (hp : p < L.length) : (L.set p r)[q]? = if p = q then some r else L[q]? := by
  rw [List.getElem?_set]
  by_cases e : p = q
  · subst e
    simp [hp]
  · simp [e]
theorem le_sum : ∀ {l : List Nat} {x : Nat}, x ∈ l → x ≤ l.sum
  | y :: l, x, h => by
    rw [List.sum_cons]
    rcases List.mem_cons.mp h with e | e
    · omega
    · have := le_sum e; omega
theorem rowL_get {L : TL} {p : Nat} (hp : p < L.length) : L[p]? = some (rowL L p) := by
  rw [List.getElem?_eq_getElem hp]
  congr 1
  exact (rowL_of (List.getElem?_eq_getElem hp)).symm
theorem insL_len {L : TL} {p k n : Nat} : (insL L p k n).length = L.length := List.length_set
theorem tot_set {w : Nat} : ∀ {L : TL} {p : Nat} {r : List Nat}, p < L.length → tot (L.set p r) w + (rowL L p).count w = tot L w + r.count w
  | x :: L, 0, r, _ => by
    show (r.count w + tot L w) + x.count w = (x.count w + tot L w) + r.count w
    omega
  | x :: L, p + 1, r, h => by
    have ih := tot_set (w := w) (L := L) (p := p) (r := r) (by simpa using h)
    show (x.count w + tot (L.set p r) w) + (rowL L p).count w = (x.count w + tot L w) + r.count w
    omega
theorem tot_ins {L : TL} {p k n w : Nat} (hp : p < L.length) : tot (insL L p k n) w = tot L w + if n = w then 1 else 0 := by
  have h := tot_set (w := w) (r := (rowL L p).take k ++ ([n] ++ (rowL L p).drop k)) hp
  rw [List.count_append, List.count_append] at h
  have e : (rowL L p).count w = ((rowL L p).take k).count w + ((rowL L p).drop k).count w := by
    rw [← List.count_append, List.take_append_drop]
  have c1 : [n].count w = if n = w then 1 else 0 := by
    rw [List.count_cons]
    by_cases q : n = w <;> simp [q]
  show tot (L.set p _) w = _
  rw [c1] at h
  omega
theorem tot_app {L M : TL} {w : Nat} : tot (L ++ M) w = tot L w + tot M w := by
  unfold tot
  rw [List.map_append, List.sum_append]
/-- turns of n wires: P posts first, then at most ten points that have ends -/
structure Tv (P n : Nat) (L : TL) : Prop where
  p1 : 1 ≤ P
  p6 : P ≤ 6
  pl : P ≤ L.length
  hl : L.length ≤ P + 10
  two : ∀ w, tot L w = if w < n then 2 else 0
  ne : ∀ p r, P ≤ p → L[p]? = some r → r ≠ []
  sz : ∀ r ∈ L, r.length ≤ 2 * n
theorem Tv.start {P : Nat} (h1 : 1 ≤ P) (h6 : P ≤ 6) : Tv P 0 (List.replicate P []) := by
  refine ⟨h1, h6, by rw [List.length_replicate]; exact Nat.le_refl _, by rw [List.length_replicate]; omega, fun w => ?_, fun p r hp hr => ?_, fun r hr => ?_⟩
  · rw [if_neg (by omega)]
    unfold tot
    rw [List.map_replicate]
    simp
  · rw [List.getElem?_eq_none (by rw [List.length_replicate]; exact hp)] at hr
    cases hr
  · rw [List.eq_of_mem_replicate hr]
    exact Nat.zero_le _
theorem row_in {L : TL} {p : Nat} : rowL L p ∈ L ∨ rowL L p = [] := by
  unfold rowL
  rw [List.getD_eq_getElem?_getD]
  cases h : L[p]? with
  | none => exact .inr rfl
  | some r => exact .inl (List.mem_of_getElem? h)
theorem ins_sz {L : TL} {p k n b : Nat} (h : ∀ r ∈ L, r.length ≤ b) : ∀ r ∈ insL L p k n, r.length ≤ b + 1 := fun r hr => by
  unfold insL at hr
  rcases List.mem_or_eq_of_mem_set hr with z | z
  · have := h r z; omega
  · rw [z, List.length_append, List.length_append, List.length_singleton, List.length_take, List.length_drop]
    have : (rowL L p).length ≤ b := by
      rcases row_in (L := L) (p := p) with y | y
      · exact h _ y
      · rw [y]; exact Nat.zero_le _
    omega
theorem ins_ne {L : TL} {P p k n : Nat} (hp : p < L.length) (h : ∀ p r, P ≤ p → L[p]? = some r → r ≠ []) : ∀ q r, P ≤ q → (insL L p k n)[q]? = some r → r ≠ [] := fun q r hq hr => by
  unfold insL at hr
  rw [get_set hp] at hr
  split at hr
  · cases hr
    simp
  · exact h q r hq hr
theorem Tv.point {P n p k : Nat} {L : TL} (h : Tv P n L) (hp : p < L.length) (hl : L.length < P + 10) : Tv P (n + 1) (insL L p k n ++ [[n]]) := by
  refine ⟨h.p1, h.p6, by rw [List.length_append, insL_len]; have := h.pl; omega, by rw [List.length_append, insL_len, List.length_singleton]; omega, fun w => ?_, fun q r hq hr => ?_, fun r hr => ?_⟩
  · rw [tot_app, tot_ins hp, h.two]
    have : tot [[n]] w = if n = w then 1 else 0 := by
      unfold tot
      rw [List.map_cons, List.map_nil, List.sum_cons, List.sum_nil, List.count_cons]
      by_cases q : n = w <;> simp [q]
    rw [this]
    by_cases q : n = w
    · rw [if_pos q, if_neg (by omega), if_pos (by omega)]
    · rw [if_neg q]
      by_cases z : w < n
      · rw [if_pos z, if_pos (by omega)]
      · rw [if_neg z, if_neg (by omega)]
  · rcases Nat.lt_or_ge q (insL L p k n).length with z | z
    · rw [List.getElem?_append_left z] at hr
      exact ins_ne hp h.ne q r hq hr
    · rw [List.getElem?_append_right z] at hr
      cases e : q - (insL L p k n).length with
      | zero =>
        rw [e] at hr
        cases hr
        simp
      | succ j =>
        rw [e] at hr
        cases hr
  · rcases List.mem_append.mp hr with z | z
    · have := ins_sz h.sz r z; omega
    · rw [List.mem_singleton.mp z]
      simp
      omega
theorem Tv.tie {P n p k q j : Nat} {L : TL} (h : Tv P n L) (hp : p < L.length) (hq : q < L.length) : Tv P (n + 1) (insL (insL L p k n) q j n) := by
  have hq' : q < (insL L p k n).length := by rw [insL_len]; exact hq
  refine ⟨h.p1, h.p6, by rw [insL_len, insL_len]; exact h.pl, by rw [insL_len, insL_len]; exact h.hl, fun w => ?_, ins_ne hq' (ins_ne hp h.ne), fun r hr => ?_⟩
  · rw [tot_ins hq', tot_ins hp, h.two]
    by_cases z : n = w
    · rw [if_pos z, if_neg (by omega), if_pos (by omega)]
    · rw [if_neg z]
      by_cases y : w < n
      · rw [if_pos y, if_pos (by omega)]
      · rw [if_neg y, if_neg (by omega)]
  · have := ins_sz (ins_sz h.sz) r hr
    omega
/-- a point's list begun elsewhere -/
theorem Tv.turn {P n p t : Nat} {L : TL} (h : Tv P n L) (hp : p < L.length) : Tv P n (L.set p ((rowL L p).drop t ++ (rowL L p).take t)) := by
  have ln : ((rowL L p).drop t ++ (rowL L p).take t).length = (rowL L p).length := by
    rw [List.length_append, List.length_drop, List.length_take]; omega
  refine ⟨h.p1, h.p6, by rw [List.length_set]; exact h.pl, by rw [List.length_set]; exact h.hl, fun w => ?_, fun q r hq hr => ?_, fun r hr => ?_⟩
  · have z := tot_set (w := w) (r := (rowL L p).drop t ++ (rowL L p).take t) hp
    have e : (rowL L p).count w = ((rowL L p).take t).count w + ((rowL L p).drop t).count w := by
      rw [← List.count_append, List.take_append_drop]
    rw [List.count_append] at z
    rw [← h.two]
    omega
  · rw [get_set hp] at hr
    split at hr
    · rename_i e
      cases hr
      have := h.ne p _ (by omega) (rowL_get hp)
      intro z
      have := congrArg List.length z
      rw [ln] at this
      rename_i y
      exact y (List.eq_nil_of_length_eq_zero this)
    · exact h.ne q r hq hr
  · rcases List.mem_or_eq_of_mem_set hr with z | z
    · exact h.sz r z
    · rw [z, ln]
      exact h.sz _ (List.mem_of_getElem? (rowL_get hp))
theorem Tv.mt {P n : Nat} {L : TL} (h : Tv P n L) {m : MD} (ms : ∀ e w e', (e, w) ∈ endsG (numb L) → (e', w) ∈ endsG (numb L) → e ≠ e' → get1 m e = some e') : Mates (numb L) m := by
  refine ⟨numb_nd, fun e w he => ?_, fun w => ?_, ms⟩
  · rw [numb_cnt, h.two]
    by_cases q : w < n
    · rw [if_pos q]
    · exfalso
      obtain ⟨p, k⟩ := e
      obtain ⟨r, h1, h2, h3⟩ := end_at he
      have z := h.two w
      rw [if_neg q] at z
      have hm : w ∈ r := List.mem_of_getElem? h3
      have c := List.count_pos_iff.mpr hm
      have le : r.count w ≤ tot L w := by
        unfold tot
        exact le_sum (List.mem_map.mpr ⟨r, List.mem_of_getElem? h1, rfl⟩)
      omega
  · rw [numb_cnt, h.two]
    split <;> omega
end Gn
namespace Gn
open PySem PySem.Spec PyProof.Rows L2 Rim Lp
section
variable {A W : Type} [DecidableEq A] [DecidableEq W] {R : List (A × List W)}
theorem take_snoc {α : Type} {xs : List α} {i : Nat} {x : α} (h : xs[i]? = some x) : xs.take (i + 1) = xs.take i ++ [x] := by
  rw [List.take_add_one, h]
  rfl
/-- the ends gone over when the row i has come to its place j -/
def pre (R : List (A × List W)) (i j : Nat) (a : A) (r : List W) : List ((A × Nat) × W) := endsG (R.take i) ++ rowG a 0 (r.take j)
theorem pre_sub {i j : Nat} {a : A} {r : List W} (h : R[i]? = some (a, r)) : ∀ x ∈ pre R i j a r, x ∈ endsG R := fun x hx => by
  unfold pre at hx
  rcases List.mem_append.mp hx with z | z
  · obtain ⟨⟨b, l⟩, w⟩ := x
    obtain ⟨r', h1, h2⟩ := mem_ends.mp z
    exact mem_ends.mpr ⟨r', List.mem_of_mem_take h1, h2⟩
  · obtain ⟨⟨b, l⟩, w⟩ := x
    obtain ⟨e, _, h2⟩ := mem_row.mp (row_sub z)
    subst e
    exact mem_ends.mpr ⟨r, List.mem_of_getElem? h, by simpa using h2⟩
theorem pre_snoc {i j : Nat} {a : A} {r : List W} {w : W} (h : r[j]? = some w) : pre R i (j + 1) a r = pre R i j a r ++ [((a, j), w)] := by
  unfold pre
  have hj : j < r.length := by
    rcases Nat.lt_or_ge j r.length with z | z
    · exact z
    · rw [List.getElem?_eq_none z] at h; cases h
  rw [take_snoc h, rowG_snoc, List.length_take, show 0 + min j r.length = j by omega, List.append_assoc]
theorem pre_done {i : Nat} {a : A} {r : List W} (h : R[i]? = some (a, r)) : pre R i r.length a r = endsG (R.take (i + 1)) := by
  unfold pre
  rw [List.take_length, take_snoc h, ends_app]
  unfold endsG
  rw [List.flatMap_cons, List.flatMap_nil, List.append_nil]
theorem pre_zero {i : Nat} {a : A} {r : List W} : pre R i 0 a r = endsG (R.take i) := by
  unfold pre
  rw [List.take_zero]
  exact List.append_nil _
theorem scan_step (nd : (R.map (·.1)).Nodup) (E : Ends (endsG R)) {f : List (W × (A × Nat))} {m : List ((A × Nat) × (A × Nat))} {i j : Nat} {a : A} {r : List W} {w : W} (h1 : R[i]? = some (a, r)) (h2 : r[j]? = some w) (h : Sc (pre R i j a r) f m) : Sc (pre R i (j + 1) a r) (step (f, m) ((a, j), w)).1 (step (f, m) ((a, j), w)).2 := by
  rw [pre_snoc h2]
  refine h.snoc (fun w' hw => ?_) (E.sub fun y hy => pre_sub (j := j + 1) h1 y (by rw [pre_snoc h2]; exact hy))
  unfold pre at hw
  rcases List.mem_append.mp hw with z | z
  · obtain ⟨r', g1, _⟩ := mem_ends.mp z
    obtain ⟨l, hl, e⟩ := List.mem_iff_getElem.mp g1
    rw [List.length_take] at hl
    rw [List.getElem_take] at e
    have hi : i < R.length := by
      rcases Nat.lt_or_ge i R.length with z | z
      · exact z
      · rw [List.getElem?_eq_none z] at h1; cases h1
    rw [List.getElem?_eq_getElem hi] at h1
    have pw := List.pairwise_iff_getElem.mp nd l i (by rw [List.length_map]; omega) (by rw [List.length_map]; omega) (by omega)
    rw [List.getElem_map, List.getElem_map, e, Option.some.inj h1] at pw
    exact pw rfl
  · obtain ⟨_, _, g⟩ := mem_row.mp z
    rw [List.getElem?_take] at g
    rw [if_neg (by simp)] at g
    cases g
theorem row_len {a : A} : ∀ {r : List W} {k : Nat}, (rowG a k r).length = r.length
  | [], _ => rfl
  | x :: r, k => by
    unfold rowG
    rw [List.length_cons, List.length_cons, row_len]
theorem ends_le {b : Nat} : ∀ {R : List (A × List W)}, (∀ q ∈ R, q.2.length ≤ b) → (endsG R).length ≤ R.length * b
  | [], _ => Nat.zero_le _
  | q :: R, h => by
    have ih := ends_le (R := R) fun x hx => h x (List.mem_cons_of_mem _ hx)
    have := h q List.mem_cons_self
    unfold endsG at ih ⊢
    rw [List.flatMap_cons, List.length_append, row_len, List.length_cons, Nat.add_mul]
    omega
theorem pre_le {i j : Nat} {a : A} {r : List W} (h : R[i]? = some (a, r)) : (pre R i j a r).length ≤ (endsG R).length := by
  have hi : i < R.length := by
    rcases Nat.lt_or_ge i R.length with z | z
    · exact z
    · rw [List.getElem?_eq_none z] at h; cases h
  have e1 : endsG R = endsG (R.take i) ++ (rowG a 0 r ++ endsG (R.drop (i + 1))) := by
    have d : R = R.take i ++ ((a, r) :: R.drop (i + 1)) := by
      conv => lhs; rw [← List.take_append_drop i R]
      congr 1
      rw [List.drop_eq_getElem_cons hi]
      congr 1
      rw [List.getElem?_eq_getElem hi] at h
      exact Option.some.inj h
    conv => lhs; rw [d, ends_app]
    congr 1
  rw [e1]
  unfold pre
  rw [List.length_append, List.length_append, List.length_append, row_len, row_len, List.length_take]
  omega
theorem Tv.ends {P n : Nat} {L : TL} (h : Tv P n L) : Ends (endsG (numb L)) := ends_of_cnt numb_nd fun w => by
  rw [numb_cnt, h.two]
  split <;> omega
theorem numb_get {L : TL} {i : Nat} {r : List Nat} (h : L[i]? = some r) : (numb L)[i]? = some (i, r) := by
  unfold numb
  rw [List.getElem?_map, List.getElem?_zipIdx, h]
  simp
theorem numb_len {L : TL} : (numb L).length = L.length := by
  unfold numb
  rw [List.length_map, List.length_zipIdx]
theorem Tv.few {P n : Nat} {L : TL} (h : Tv P n L) (hn : n ≤ 15) : (endsG (numb L)).length ≤ 480 := by
  have a := ends_le (R := numb L) (b := 30) fun q hq => by
    have := h.sz q.2 (List.mem_of_getElem? (mem_numb.mp hq))
    omega
  rw [numb_len] at a
  have := h.hl
  have := h.p6
  omega
theorem corners_le {P n : Nat} {L : TL} (h : Tv P n L) (hn : n ≤ 15) : (cornersL P L).length ≤ 496 := by
  have key : ∀ {R : List (Nat × List Nat)}, (∀ q ∈ R, q.2.length ≤ 30) → (R.flatMap fun q => (List.range (q.2.length + if q.1 < P then 1 else 0)).map fun k => (q.1, k)).length ≤ R.length * 31 := by
    intro R
    induction R with
    | nil => intro _; exact Nat.zero_le _
    | cons q R ih =>
      intro hq
      have a := ih fun x hx => hq x (List.mem_cons_of_mem _ hx)
      have b := hq q List.mem_cons_self
      rw [List.flatMap_cons, List.length_append, List.length_map, List.length_range, List.length_cons, Nat.add_mul]
      split <;> omega
  have a := key (R := numb L) fun q hq => by
    have := h.sz q.2 (List.mem_of_getElem? (mem_numb.mp hq))
    omega
  rw [numb_len] at a
  have := h.hl
  have := h.p6
  unfold cornersL
  omega
end
end Gn
namespace Gn
open PySem PySem.Spec PyProof.Rows L2 Rim Lp
/-! ### nets as texts, points and wires named -/
abbrev LT := List (Str × List Str)
abbrev WT := Str × Fr
abbrev lsO (ws : List Str) : O := .lst (ws.map sO)
abbrev lsD (ws : List Str) : PyData := .list (ws.map PyData.str)
def rwD (r : Str × List Str) : PyData := .tuple [.str r.1, lsD r.2]
def rwO (r : Str × List Str) : O := .fz (rwD r)
def wD (x : WT) : PyData := .tuple [.str x.1, frD x.2]
def wO (x : WT) : O := .fz (wD x)
abbrev netD (posts : List Str) (R : LT) (ws : List WT) : PyData := .tuple [lsD posts, .list (R.map rwD), .list (ws.map wD)]
def rowOf (Ns Ws : List Str) (L : TL) (p : Nat) : Str × List Str := (Ns.getD p "", (rowL L p).map fun w => Ws.getD w "")
def WtOk (q : Fr) : Prop := ∃ t b : Int, 1 ≤ t ∧ t ≤ 1000 ∧ 1 ≤ b ∧ b ≤ 1000 ∧ q = nm t b
structure Net (P w : Nat) (L : TL) (Ns Ws : List Str) (ord : List Nat) (ws : List WT) : Prop where
  tv : Tv P w L
  nn : NmOk L.length Ns
  nw : NmOk w Ws
  w15 : w ≤ 15
  po : ord.Perm (List.range L.length)
  wt : ∀ x ∈ ws, WtOk x.2
  srt : ∃ ws0 : List WT, ws0.map (·.1) = Ws ∧ ws.Perm ws0 ∧ ws.map wD = (ws0.map wD).mergeSort (PySem.W.dataLe false id)
theorem wO_wD {ws : List WT} : (ws.map wD).map O.fz = ws.map wO := by
  rw [List.map_map]
  rfl
theorem srt_worths {ws : List WT} (h : ∀ x ∈ ws, PyData.strOk x.1 = true) (hl : ws.length < 1000) : ∃ ws' : List WT, ws'.Perm ws ∧ ws'.map wD = (ws.map wD).mergeSort (PySem.W.dataLe false id) ∧ srtO false (.fz (.list (ws.map wD))) = some (.lst (ws'.map wO)) := by
  have b : srtB (ws.map wD) = true := by
    unfold srtB
    simp only [Bool.and_eq_true, Bool.or_eq_true, List.all_eq_true]
    refine ⟨⟨⟨fun d hd e he => ?_, .inl fun d hd => ?_⟩, fun d hd => ?_⟩, ?_⟩
    · obtain ⟨x, _, rfl⟩ := List.mem_map.mp hd
      obtain ⟨y, _, rfl⟩ := List.mem_map.mp he
      rfl
    · obtain ⟨x, _, rfl⟩ := List.mem_map.mp hd
      rfl
    · obtain ⟨x, hx, rfl⟩ := List.mem_map.mp hd
      rw [shaped_shp]
      have := h x hx
      unfold wD
      simp [this]
    · rw [List.length_map]
      exact Nat.ble_eq_true_of_le (room_of (by omega))
  obtain ⟨ws', p, e⟩ := perm_lift wD (List.mergeSort_perm (ws.map wD) (PySem.W.dataLe false id)) ws rfl
  refine ⟨ws', p, e, ?_⟩
  unfold srtO
  simp only [b, if_true]
  rw [← e, wO_wD]
def Txs (ws : List Str) : Prop := ∀ w ∈ ws, PyData.strOk w = true
theorem shp_ls {ws : List Str} (h : Txs ws) {m : Nat} : shp (m + 1) (lsD ws) = true := by
  rw [shp_list, List.all_eq_true]
  intro d hd
  obtain ⟨w, hw, rfl⟩ := List.mem_map.mp hd
  rw [shp_str]
  exact h w hw
theorem er_rows {R : LT} : ers (R.map rwO) = R.map rwD := by
  rw [ers_map2]
  exact List.map_congr_left fun x _ => er_fz
theorem er_worths {ws : List WT} : ers (ws.map wO) = ws.map wD := by
  rw [ers_map2]
  exact List.map_congr_left fun x _ => er_fz
theorem ers_ls {ws : List Str} : ers (ws.map sO) = ws.map PyData.str := by
  rw [ers_map2]
  exact List.map_congr_left fun x _ => er_fz
theorem shp_row {r : Str × List Str} (h : PyData.strOk r.1 = true ∧ Txs r.2) {m : Nat} : shp (m + 2) (rwD r) = true := by
  have z := shp_ls (m := m) h.2
  unfold rwD
  simp only [shp_tuple, List.all_cons, List.all_nil, shp_str, h.1, z, Bool.and_self]
theorem shp_rows {R : LT} (h : ∀ r ∈ R, PyData.strOk r.1 = true ∧ Txs r.2) {m : Nat} : shp (m + 3) (.list (R.map rwD)) = true := by
  rw [shp_list, List.all_eq_true]
  intro d hd
  obtain ⟨r, hr, rfl⟩ := List.mem_map.mp hd
  exact shp_row (h r hr)
theorem shp_worths {ws : List WT} (h : ∀ x ∈ ws, PyData.strOk x.1 = true) {m : Nat} : shp (m + 4) (.list (ws.map wD)) = true := by
  rw [shp_list, List.all_eq_true]
  intro d hd
  obtain ⟨x, hx, rfl⟩ := List.mem_map.mp hd
  have := h x hx
  unfold wD
  simp [this]
section
variable {P w : Nat} {L : TL} {Ns Ws : List Str} {ord : List Nat} {ws : List WT}
theorem getD_mem {Xs : List Str} {i : Nat} (h : i < Xs.length) : Xs.getD i "" ∈ Xs := by
  rw [List.getD_eq_getElem?_getD, List.getElem?_eq_getElem h]
  exact List.getElem_mem h
theorem wires_lt {n : Nat} (tv : Tv P n L) {p i : Nat} (h : i ∈ rowL L p) : i < n := by
  rcases Nat.lt_or_ge i n with z | z
  · exact z
  · exfalso
    have t := tv.two i
    rw [if_neg (by omega)] at t
    rcases row_in (L := L) (p := p) with y | y
    · have c := List.count_pos_iff.mpr h
      have : (rowL L p).count i ≤ tot L i := le_sum (List.mem_map.mpr ⟨_, y, rfl⟩)
      omega
    · rw [y] at h; cases h
theorem Net.row_ok (h : Net P w L Ns Ws ord ws) {p : Nat} (hp : p < L.length) : PyData.strOk (rowOf Ns Ws L p).1 = true ∧ Txs (rowOf Ns Ws L p).2 := by
  refine ⟨h.nn.txs (getD_mem (by rw [h.nn.len]; exact hp)), fun s hs => ?_⟩
  obtain ⟨i, hi, rfl⟩ := List.mem_map.mp hs
  exact h.nw.txs (getD_mem (by rw [h.nw.len]; exact wires_lt h.tv hi))
theorem Net.ord_lt (h : Net P w L Ns Ws ord ws) {p : Nat} (hp : p ∈ ord) : p < L.length := List.mem_range.mp (h.po.mem_iff.mp hp)
theorem Net.rows_ok (h : Net P w L Ns Ws ord ws) : ∀ r ∈ ord.map (rowOf Ns Ws L), PyData.strOk r.1 = true ∧ Txs r.2 := fun r hr => by
  obtain ⟨p, hp, rfl⟩ := List.mem_map.mp hr
  exact h.row_ok (h.ord_lt hp)
theorem Net.ws_names (h : Net P w L Ns Ws ord ws) : (ws.map (·.1)).Perm Ws := by
  obtain ⟨ws0, e, p, _⟩ := h.srt
  rw [← e]
  exact p.map _
theorem Net.ws_ok (h : Net P w L Ns Ws ord ws) : ∀ x ∈ ws, PyData.strOk x.1 = true := fun x hx => h.nw.txs (h.ws_names.mem_iff.mp (List.mem_map.mpr ⟨x, hx, rfl⟩))
theorem Net.posts_ok (h : Net P w L Ns Ws ord ws) : Txs (Ns.take P) := fun s hs => h.nn.txs (List.mem_of_mem_take hs)
theorem Net.ws_len (h : Net P w L Ns Ws ord ws) : ws.length = w := by
  have := h.ws_names.length_eq
  rw [List.length_map, h.nw.len] at this
  exact this
theorem Net.L16 (h : Net P w L Ns Ws ord ws) : L.length ≤ 16 := by
  have := h.tv.hl
  have := h.tv.p6
  omega
theorem Net.ord_len (h : Net P w L Ns Ws ord ws) : ord.length = L.length := by
  have := h.po.length_eq
  rwa [List.length_range] at this
theorem Net.shp (h : Net P w L Ns Ws ord ws) : Rim.shp 64 (netD (Ns.take P) (ord.map (rowOf Ns Ws L)) ws) = true := by
  have a := shp_ls (m := 62) h.posts_ok
  have b := shp_rows (m := 60) h.rows_ok
  have c := shp_worths (m := 59) h.ws_ok
  simp only [shp_tuple, List.all_cons, List.all_nil, a, b, c, Bool.and_self]
end
end Gn
namespace Gn
open PySem PySem.Spec PyProof.Rows L2 Rim Lp
/-! ### rows by name -/
structure NR (posts : List Str) (R : LT) : Prop where
  keys : (R.map (·.1)).Nodup
  le : ∀ s, (R.map fun q => q.2.count s).sum ≤ 2
  two : ∀ e s, (e, s) ∈ endsG R → (R.map fun q => q.2.count s).sum = 2
  tp : Txs posts
  tr : ∀ r ∈ R, PyData.strOk r.1 = true ∧ Txs r.2
  l1 : posts.length ≤ 6
  l2 : R.length ≤ 16
  l3 : ∀ r ∈ R, r.2.length ≤ 30
theorem count_map {α β : Type} [DecidableEq α] [DecidableEq β] {f : α → β} {i : α} : ∀ {r : List α}, (∀ j ∈ r, f j = f i → j = i) → (r.map f).count (f i) = r.count i
  | [], _ => rfl
  | x :: r, h => by
    have ih := count_map (f := f) (i := i) (r := r) fun j hj => h j (List.mem_cons_of_mem _ hj)
    rw [List.map_cons, List.count_cons, List.count_cons, ih]
    by_cases q : x = i
    · subst q
      simp
    · have : ¬ f x = f i := fun z => q (h x List.mem_cons_self z)
      simp [q, this]
theorem getD_inj {Xs : List Str} (nd : Xs.Nodup) {i j : Nat} (hi : i < Xs.length) (hj : j < Xs.length) (h : Xs.getD i "" = Xs.getD j "") : i = j := by
  rw [List.getD_eq_getElem?_getD, List.getD_eq_getElem?_getD, List.getElem?_eq_getElem hi, List.getElem?_eq_getElem hj] at h
  have h : Xs[i] = Xs[j] := h
  have pw := List.pairwise_iff_getElem.mp nd
  rcases Nat.lt_trichotomy i j with z | z | z
  · exact absurd h (pw i j hi hj z)
  · exact z
  · exact absurd h.symm (pw j i hj hi z)
theorem sum_perm {l m : List Nat} (h : l.Perm m) : l.sum = m.sum := h.sum_nat
theorem tot_range {L : TL} {i : Nat} : ((List.range L.length).map fun p => (rowL L p).count i).sum = tot L i := by
  unfold tot
  congr 1
  refine List.ext_getElem (by simp) fun q h1 h2 => ?_
  rw [List.getElem_map, List.getElem_map, List.getElem_range]
  rw [List.length_map] at h2
  rw [rowL_of (List.getElem?_eq_getElem h2)]
section
variable {P w : Nat} {L : TL} {Ns Ws : List Str} {ord : List Nat} {ws : List WT}
theorem Net.cnt (h : Net P w L Ns Ws ord ws) {i : Nat} (hi : i < w) : ((ord.map (rowOf Ns Ws L)).map fun q => q.2.count (Ws.getD i "")).sum = 2 := by
  rw [List.map_map]
  have e : ord.map ((fun q : Str × List Str => q.2.count (Ws.getD i "")) ∘ Gn.rowOf Ns Ws L) = ord.map fun p => (rowL L p).count i := by
    refine List.map_congr_left fun p _ => ?_
    show ((rowL L p).map fun w => Ws.getD w "").count (Ws.getD i "") = _
    refine count_map (f := fun w => Ws.getD w "") fun j hj e => ?_
    exact getD_inj h.nw.nd (by rw [h.nw.len]; exact wires_lt h.tv hj) (by rw [h.nw.len]; exact hi) e
  rw [e, sum_perm (h.po.map _), tot_range, h.tv.two, if_pos hi]
theorem Net.nr (h : Net P w L Ns Ws ord ws) : NR (Ns.take P) (ord.map (rowOf Ns Ws L)) := by
  have wire : ∀ r ∈ ord.map (rowOf Ns Ws L), ∀ s ∈ r.2, ∃ i, i < w ∧ s = Ws.getD i "" := fun r hr s hs => by
    obtain ⟨p, hp, rfl⟩ := List.mem_map.mp hr
    obtain ⟨i, hi, rfl⟩ := List.mem_map.mp hs
    exact ⟨i, wires_lt h.tv hi, rfl⟩
  refine ⟨?_, fun s => ?_, fun e s he => ?_, h.posts_ok, h.rows_ok, ?_, ?_, fun r hr => ?_⟩
  · rw [List.map_map]
    have nd : ord.Nodup := h.po.nodup_iff.mpr List.nodup_range
    refine nodup_map nd fun a ha b hb e => ?_
    exact getD_inj h.nn.nd (by rw [h.nn.len]; exact h.ord_lt ha) (by rw [h.nn.len]; exact h.ord_lt hb) e
  · by_cases q : ∃ i, i < w ∧ s = Ws.getD i ""
    · obtain ⟨i, hi, rfl⟩ := q
      rw [h.cnt hi]
      exact Nat.le_refl _
    · have z : ∀ x ∈ (ord.map (rowOf Ns Ws L)).map fun q => q.2.count s, x = 0 := fun x hx => by
        obtain ⟨r, hr, rfl⟩ := List.mem_map.mp hx
        exact List.count_eq_zero.mpr fun hs => q (wire r hr s hs)
      have : ∀ l : List Nat, (∀ x ∈ l, x = 0) → l.sum = 0 := fun l => by
        induction l with
        | nil => intro _; rfl
        | cons a l ih =>
          intro hl
          rw [List.sum_cons, hl a List.mem_cons_self, ih fun x hx => hl x (List.mem_cons_of_mem _ hx)]
      rw [this _ z]
      exact Nat.zero_le _
  · obtain ⟨a, i⟩ := e
    obtain ⟨r, h1, h2⟩ := mem_ends.mp he
    obtain ⟨j, hj, rfl⟩ := wire _ h1 s (List.mem_of_getElem? h2)
    exact h.cnt hj
  · rw [List.length_take]
    have := h.tv.p6
    omega
  · rw [List.length_map, h.ord_len]
    exact h.L16
  · obtain ⟨p, hp, rfl⟩ := List.mem_map.mp hr
    show ((rowL L p).map _).length ≤ 30
    rw [List.length_map]
    have := h.tv.sz _ (List.mem_of_getElem? (rowL_get (h.ord_lt hp)))
    have := h.w15
    omega
end
section
variable {posts : List Str} {R : LT}
theorem NR.ends (h : NR posts R) : Ends (endsG R) := ends_of_cnt h.keys h.le
theorem NR.few (h : NR posts R) : (endsG R).length ≤ 480 := by
  have a := ends_le (R := R) (b := 30) fun q hq => h.l3 q hq
  have := h.l2
  omega
theorem NR.mt (h : NR posts R) {m : List ((Str × Nat) × (Str × Nat))} (ms : ∀ e w e', (e, w) ∈ endsG R → (e', w) ∈ endsG R → e ≠ e' → get1 m e = some e') : Mates R m := ⟨h.keys, h.two, h.le, ms⟩
theorem row_filter {a w : Str} : ∀ {r : List Str} {k : Nat}, ((r.zipIdx k).filter fun q => decide (q.1 = w)).map (fun q => (a, q.2)) = ((rowG a k r).filter fun x => decide (x.2 = w)).map (·.1)
  | [], _ => rfl
  | x :: r, k => by
    have ih := row_filter (a := a) (w := w) (r := r) (k := k + 1)
    unfold rowG
    rw [List.zipIdx_cons, List.filter_cons, List.filter_cons]
    by_cases e : x = w
    · rw [if_pos (by simpa using e), if_pos (by simpa using e), List.map_cons, List.map_cons, ih]
    · rw [if_neg (by simpa using e), if_neg (by simpa using e), ih]
theorem endsF_eq {w : Str} : ∀ {R : LT}, endsF R w = ((endsG R).filter fun x => decide (x.2 = w)).map (·.1)
  | [] => rfl
  | r :: R => by
    have ih := endsF_eq (w := w) (R := R)
    unfold endsF endsG at ih ⊢
    rw [List.flatMap_cons, List.flatMap_cons, List.filter_append, List.map_append, ← ih, row_filter]
/-- a wire's two ends, as they stand in rows -/
theorem NR.pair (h : NR posts R) {e : Str × Nat} {s : Str} (he : (e, s) ∈ endsG R) : ∃ e1 e2, endsF R s = [e1, e2] ∧ (e1, s) ∈ endsG R ∧ (e2, s) ∈ endsG R ∧ e1 ≠ e2 := by
  obtain ⟨e1, e2, hf, ne⟩ := two_ends h.keys (h.two e s he)
  refine ⟨e1, e2, by rw [endsF_eq, hf]; rfl, ?_, ?_, ne⟩
  · exact (List.mem_filter.mp (show (e1, s) ∈ (endsG R).filter fun x => decide (x.2 = s) by rw [hf]; exact List.mem_cons_self)).1
  · exact (List.mem_filter.mp (show (e2, s) ∈ (endsG R).filter fun x => decide (x.2 = s) by rw [hf]; exact List.mem_cons_of_mem _ List.mem_cons_self)).1
end
/-! ### ends gathered by wire -/
section
variable {E : Type}
def gat (D : List (Str × List E)) (x : E × Str) : List (Str × List E) := put1 D x.2 ((get1 D x.2).getD [] ++ [x.1])
structure Ga (S : List (E × Str)) (D : List (Str × List E)) : Prop where
  nd : (D.map (·.1)).Nodup
  g : ∀ s, get1 D s = if (S.filter fun x => decide (x.2 = s)) = [] then none else some ((S.filter fun x => decide (x.2 = s)).map (·.1))
theorem Ga.nil : Ga ([] : List (E × Str)) [] := ⟨List.nodup_nil, fun s => rfl⟩
theorem put1_keys2 {κ α : Type} [DecidableEq κ] {k : κ} {v : α} {L : List (κ × α)} (h : (L.map (·.1)).Nodup) : ((put1 L k v).map (·.1)).Nodup := by
  cases hg : get1 L k with
  | some u =>
    rw [put1_keys hg]
    exact h
  | none =>
    rw [get1_none_put hg, List.map_append, List.nodup_append]
    refine ⟨h, by simp, fun a ha b hb e => ?_⟩
    simp only [List.map_cons, List.map_nil, List.mem_singleton] at hb
    subst e hb
    obtain ⟨u, hu⟩ := get1_key ha
    rw [hg] at hu
    cases hu
theorem Ga.snoc {S : List (E × Str)} {D : List (Str × List E)} (h : Ga S D) (x : E × Str) : Ga (S ++ [x]) (gat D x) := by
  refine ⟨put1_keys2 h.nd, fun s => ?_⟩
  unfold gat
  rw [get1_put1, List.filter_append]
  by_cases e : x.2 = s
  · rw [if_pos e]
    have f : [x].filter (fun x => decide (x.2 = s)) = [x] := by simp [e]
    rw [f, if_neg (by simp), List.map_append, e, h.g s]
    by_cases q : (S.filter fun x => decide (x.2 = s)) = []
    · rw [if_pos q, q]
      rfl
    · rw [if_neg q]
      rfl
  · rw [if_neg e]
    have f : [x].filter (fun x => decide (x.2 = s)) = [] := by simp [e]
    rw [f, List.append_nil]
    exact h.g s
theorem Ga.len {D : List (Str × List E)} {x : E × Str} : (gat D x).length ≤ D.length + 1 := put1_len
end
end Gn
namespace K11
open PySem PySem.Spec PyProof.Rows L2 Rim
def topS (i : Nat) : Stmt := PySem.Challenge.pw_rimread_k11_ends_and_corners.main.body.getD i (.Pass ⟨0, 0, 0, 0⟩)
abbrev b_turns_of_1 : Ss :=
    (.cons (.put (.nm 1) (.var 2) (.frz (.bl1 .list (.var 3))))
      .nil)
def b_turns_of : Ss :=
    (.cons (.set 1 .dkn)
      (.cons (.forr (.tp (.nm 2) (.nm 3)) (.seq (.ix (.var 0) (.int 1))) b_turns_of_1)
      (.cons (.ret (.mov 1))
      .nil)))
def d_turns_of : Df := { name := "turns_of", ps := ["net"], N := ["net", "turns", "point", "wires"], body := b_turns_of, ast := topS 1 }
abbrev b_mates_of_1 : Ss :=
    (.cons (.ite (.cmp .isin (.var 5) (.var 1))
      (.cons (.put (.nm 2) (.tup (.cons (.var 3) (.cons (.var 4) .nil))) (.ix (.var 1) (.var 5)))
      (.cons (.put (.nm 2) (.ix (.var 1) (.var 5)) (.tup (.cons (.var 3) (.cons (.var 4) .nil))))
      .nil))
      (.cons (.put (.nm 1) (.var 5) (.tup (.cons (.var 3) (.cons (.var 4) .nil))))
      .nil))
      .nil)
abbrev b_mates_of_2 : Ss :=
    (.cons (.forr (.tp (.nm 4) (.nm 5)) (.enum (.ix (.var 0) (.var 3))) b_mates_of_1)
      .nil)
def b_mates_of : Ss :=
    (.cons (.set 1 .dkn)
      (.cons (.set 2 .dtn)
      (.cons (.forr (.nm 3) (.seq (.lkv 0)) b_mates_of_2)
      (.cons (.ret (.mov 2))
      .nil))))
def d_mates_of : Df := { name := "mates_of", ps := ["turns"], N := ["turns", "first", "mates", "point", "place", "wire"], body := b_mates_of, ast := topS 2 }
def b_points_within : Ss :=
    (.cons (.ret (.comp (.var 1) (.tp (.nm 1) (.nm 2)) (.seq (.ix (.var 0) (.int 1))) (.so (.cmp .notin (.var 1) (.ix (.var 0) (.int 0)))) [1, 2]))
      .nil)
def d_points_within : Df := { name := "points_within", ps := ["net"], N := ["net", "point", "wires"], body := b_points_within, ast := topS 3 }
abbrev b_ends_of_1 : Ss :=
    (.cons (.ite (.cmp .eq (.var 6) (.var 1))
      (.cons (.expr (.mut .append (.nm 2) (.cons (.tup (.cons (.var 3) (.cons (.var 5) .nil))) .nil)))
      .nil)
      .nil)
      .nil)
abbrev b_ends_of_2 : Ss :=
    (.cons (.forr (.tp (.nm 5) (.nm 6)) (.enum (.var 4)) b_ends_of_1)
      .nil)
def b_ends_of : Ss :=
    (.cons (.set 2 (.lst .nil))
      (.cons (.forr (.tp (.nm 3) (.nm 4)) (.seq (.ix (.var 0) (.int 1))) b_ends_of_2)
      (.cons (.ret (.mov 2))
      .nil)))
def d_ends_of : Df := { name := "ends_of", ps := ["net", "wire"], N := ["net", "wire", "found", "point", "wires", "place", "name"], body := b_ends_of, ast := topS 4 }
def b_other_end : Ss :=
    (.cons (.ret (.ix (.call "mates_of" (.cons .val (.lck (.call "turns_of" (.cons .val (.var 0) .nil))) .nil)) (.var 1)))
      .nil)
def d_other_end : Df := { name := "other_end", ps := ["net", "end"], N := ["net", "end"], body := b_other_end, ast := topS 5 }
def b_corner_count : Ss :=
    (.cons (.ret (.bin .add (.bl1 .len (.ix (.var 1) (.var 2))) (.bl1 .int (.cmp .isin (.var 2) (.var 0)))))
      .nil)
def d_corner_count : Df := { name := "corner_count", ps := ["posts", "turns", "point"], N := ["posts", "turns", "point"], body := b_corner_count, ast := topS 6 }
abbrev b_corners_of_1 : Ss :=
    (.cons (.expr (.mutA .extend 2 (.cons (.comp (.tup (.cons (.var 3) (.cons (.var 4) .nil))) (.nm 4) (.rng1 (.call "corner_count" (.cons .val (.ix (.var 0) (.int 0)) (.cons .val (.var 1) (.cons .val (.var 3) .nil))))) .no [4]) .nil)))
      .nil)
def b_corners_of : Ss :=
    (.cons (.set 1 (.lck (.call "turns_of" (.cons .val (.var 0) .nil))))
      (.cons (.set 2 (.lst .nil))
      (.cons (.forr (.nm 3) (.seq (.lkv 1)) b_corners_of_1)
      (.cons (.ret (.mov 2))
      .nil))))
def d_corners_of : Df := { name := "corners_of", ps := ["net"], N := ["net", "turns", "found", "point", "place"], body := b_corners_of, ast := topS 7 }
def b_law_cell_at : Ss :=
    (.cons (.ite (.cmp .lt (.var 1) (.bl1 .len (.var 0)))
      (.cons (.ret (.ix (.var 0) (.var 1)))
      .nil)
      .nil)
      (.cons (.ret (.int 0))
      .nil))
def d_law_cell_at : Df := { name := "_law_cell_at", ps := ["_law_script", "_law_k"], N := ["_law_script", "_law_k"], body := b_law_cell_at, ast := topS 9 }
abbrev b_law_big_1 : Ss :=
    (.cons (.set 7 (.bin .add (.bin .add (.bin .mod (.call "_law_cell_at" (.cons .val (.var 0) (.cons .val (.bin .add (.var 1) (.bin .mod (.var 6) (.int 9))) .nil))) (.bin .pow (.int 10) (.int 18))) (.int 1)) (.bin .mul (.var 6) (.var 6))))
      (.cons (.set 5 (.bin .add (.bin .mul (.var 5) (.int 7919)) (.bin .mod (.bin .mod (.bin .mul (.var 7) (.ix (.var 2) (.bin .mod (.var 6) (.int 8)))) (.ix (.var 3) (.bin .mod (.var 6) (.int 8)))) (.int 7919))))
      .nil))
def b_law_big : Ss :=
    (.cons (.set 2 (.tup (.cons (.int 48271) (.cons (.int 69621) (.cons (.int 16807) (.cons (.int 39373) (.cons (.int 21401) (.cons (.int 60493) (.cons (.int 87721) (.cons (.int 31337) .nil))))))))))
      (.cons (.set 3 (.tup (.cons (.int 99991) (.cons (.int 99989) (.cons (.int 99971) (.cons (.int 99961) (.cons (.int 99929) (.cons (.int 99923) (.cons (.int 99907) (.cons (.int 99901) .nil))))))))))
      (.cons (.set 4 (.call "_law_cell_at" (.cons .val (.var 0) (.cons .val (.var 1) .nil))))
      (.cons (.ite (.cmp .ge (.var 4) (.bin .pow (.int 10) (.int 18)))
      (.cons (.ret (.var 4))
      .nil)
      .nil)
      (.cons (.set 5 (.int 0))
      (.cons (.forr (.nm 6) (.rng1 (.int 60)) b_law_big_1)
      (.cons (.ret (.var 5))
      .nil)))))))
def d_law_big : Df := { name := "_law_big", ps := ["_law_script", "_law_at"], N := ["_law_script", "_law_at", "_law_by", "_law_prime", "_law_cell", "_law_big_here", "_law_k", "_law_one"], body := b_law_big, ast := topS 10 }
abbrev b_law_low_1 : Ss :=
    (.cons (.par 2 3 (.var 3) (.bin .mod (.var 2) (.var 3)))
      .nil)
def b_law_low : Ss :=
    (.cons (.par 2 3 (.bl1 .abs (.var 0)) (.var 1))
      (.cons (.whl (.cmp .gt (.var 3) (.int 0)) b_law_low_1)
      (.cons (.ret (.tup (.cons (.bin .fdiv (.var 0) (.var 2)) (.cons (.bin .fdiv (.var 1) (.var 2)) .nil))))
      .nil)))
def d_law_low : Df := { name := "_law_low", ps := ["_law_top", "_law_bottom"], N := ["_law_top", "_law_bottom", "_law_one", "_law_other"], body := b_law_low, ast := topS 11 }
def b_law_worth_of : Ss :=
    (.cons (.set 1 (.bin .add (.int 1) (.bin .mod (.var 0) (.int 3))))
      (.cons (.ite (.cmp .eq (.bin .mod (.bin .fdiv (.var 0) (.int 3)) (.int 4)) (.int 1))
      (.cons (.set 1 (.bin .add (.int 1) (.bin .mod (.bin .fdiv (.var 0) (.int 12)) (.int 12))))
      .nil)
      .nil)
      (.cons (.ite (.cmp .eq (.bin .mod (.bin .fdiv (.var 0) (.int 3)) (.int 16)) (.int 2))
      (.cons (.set 1 (.bin .add (.int 1) (.bin .mod (.bin .fdiv (.var 0) (.int 48)) (.int 1000))))
      .nil)
      .nil)
      (.cons (.set 0 (.bin .fdiv (.var 0) (.int 48000)))
      (.cons (.set 2 (.bin .add (.int 1) (.bin .mod (.var 0) (.int 5))))
      (.cons (.ite (.cmp .eq (.bin .mod (.bin .fdiv (.var 0) (.int 5)) (.int 4)) (.int 1))
      (.cons (.set 2 (.bin .add (.int 1) (.bin .mod (.bin .fdiv (.var 0) (.int 20)) (.int 12))))
      .nil)
      .nil)
      (.cons (.ite (.cmp .eq (.bin .mod (.bin .fdiv (.var 0) (.int 5)) (.int 16)) (.int 2))
      (.cons (.set 2 (.bin .add (.int 1) (.bin .mod (.bin .fdiv (.var 0) (.int 80)) (.int 1000))))
      .nil)
      .nil)
      (.cons (.ret (.tup (.cons (.call "_law_low" (.cons .val (.var 2) (.cons .val (.var 1) .nil))) (.cons (.bin .fdiv (.var 0) (.int 80000)) .nil))))
      .nil))))))))
def d_law_worth_of : Df := { name := "_law_worth_of", ps := ["_law_big_here"], N := ["_law_big_here", "_law_bottom", "_law_top"], body := b_law_worth_of, ast := topS 12 }
abbrev b_law_mates_1 : Ss :=
    (.cons (.set 5 (.ix (.ix (.var 0) (.var 3)) (.var 4)))
      (.cons (.ite (.cmp .isin (.var 5) (.var 1))
      (.cons (.put (.nm 2) (.tup (.cons (.var 3) (.cons (.var 4) .nil))) (.ix (.var 1) (.var 5)))
      (.cons (.put (.nm 2) (.ix (.var 1) (.var 5)) (.tup (.cons (.var 3) (.cons (.var 4) .nil))))
      .nil))
      (.cons (.put (.nm 1) (.var 5) (.tup (.cons (.var 3) (.cons (.var 4) .nil))))
      .nil))
      .nil))
abbrev b_law_mates_2 : Ss :=
    (.cons (.forr (.nm 4) (.rng1 (.bl1 .len (.ix (.var 0) (.var 3)))) b_law_mates_1)
      .nil)
def b_law_mates : Ss :=
    (.cons (.set 1 .dkn)
      (.cons (.set 2 .dtn)
      (.cons (.forr (.nm 3) (.rng1 (.bl1 .len (.var 0))) b_law_mates_2)
      (.cons (.ret (.mov 2))
      .nil))))
def d_law_mates : Df := { name := "_law_mates", ps := ["_law_turns"], N := ["_law_turns", "_law_first", "_law_mates_here", "_law_p", "_law_k", "_law_wire"], body := b_law_mates, ast := topS 13 }
abbrev b_law_corners_1 : Ss :=
    (.cons (.set 2 (.bin .add (.mov 2) (.comp (.tup (.cons (.var 3) (.cons (.var 4) .nil))) (.nm 4) (.rng1 (.bin .add (.bl1 .len (.ix (.var 0) (.var 3))) (.bl1 .int (.cmp .lt (.var 3) (.var 1))))) .no [4])))
      .nil)
def b_law_corners : Ss :=
    (.cons (.set 2 (.lst .nil))
      (.cons (.forr (.nm 3) (.rng1 (.bl1 .len (.var 0))) b_law_corners_1)
      (.cons (.ret (.mov 2))
      .nil)))
def d_law_corners : Df := { name := "_law_corners", ps := ["_law_turns", "_law_posts"], N := ["_law_turns", "_law_posts", "_law_found", "_law_p", "_law_k"], body := b_law_corners, ast := topS 14 }
def b_law_corner_behind : Ss :=
    (.cons (.asg (.tp (.nm 4) (.nm 5)) (.var 3))
      (.cons (.ite (.cmp .eq (.var 5) (.bl1 .len (.ix (.var 0) (.var 4))))
      (.cons (.ret (.tup (.cons (.bin .mod (.bin .sub (.var 4) (.int 1)) (.var 1)) (.cons (.int 0) .nil))))
      .nil)
      .nil)
      (.cons (.asg (.tp (.nm 6) (.nm 7)) (.ix (.var 2) (.tup (.cons (.var 4) (.cons (.var 5) .nil)))))
      (.cons (.ite (.cmp .lt (.var 6) (.var 1))
      (.cons (.ret (.tup (.cons (.var 6) (.cons (.bin .add (.var 7) (.int 1)) .nil))))
      .nil)
      .nil)
      (.cons (.ret (.tup (.cons (.var 6) (.cons (.bin .mod (.bin .add (.var 7) (.int 1)) (.bl1 .len (.ix (.var 0) (.var 6)))) .nil))))
      .nil)))))
def d_law_corner_behind : Df := { name := "_law_corner_behind", ps := ["_law_turns", "_law_posts", "_law_mates_here", "_law_corner"], N := ["_law_turns", "_law_posts", "_law_mates_here", "_law_corner", "_law_p", "_law_k", "_law_q", "_law_j"], body := b_law_corner_behind, ast := topS 15 }
abbrev b_law_region_1 : Ss :=
    (.cons (.expr (.mut .append (.nm 4) (.cons (.var 5) .nil)))
      (.cons (.set 5 (.call "_law_corner_behind" (.cons .val (.var 0) (.cons .val (.var 1) (.cons .val (.var 2) (.cons .val (.var 5) .nil))))))
      .nil))
def b_law_region : Ss :=
    (.cons (.set 4 (.lst (.cons (.var 3) .nil)))
      (.cons (.set 5 (.call "_law_corner_behind" (.cons .val (.var 0) (.cons .val (.var 1) (.cons .val (.var 2) (.cons .val (.var 3) .nil))))))
      (.cons (.whl (.cmp .ne (.var 5) (.var 3)) b_law_region_1)
      (.cons (.ret (.mov 4))
      .nil))))
def d_law_region : Df := { name := "_law_region", ps := ["_law_turns", "_law_posts", "_law_mates_here", "_law_corner"], N := ["_law_turns", "_law_posts", "_law_mates_here", "_law_corner", "_law_found", "_law_here"], body := b_law_region, ast := topS 16 }
abbrev b_law_grown_1 : Ss :=
    (.cons (.expr (.mut .insert (.ix (.nm 4) (.var 11)) (.cons (.var 12) (.cons (.var 5) .nil))))
      .nil)
abbrev b_law_grown_2 : Ss :=
    (.cons (.set 6 (.call "_law_corners" (.cons .bor (.var 4) (.cons .val (.var 1) .nil))))
      (.cons (.frz 6)
      (.cons (.set 7 (.ix (.var 6) (.bin .mod (.var 0) (.bl1 .len (.var 6)))))
      (.cons (.set 0 (.bin .fdiv (.var 0) (.bl1 .len (.var 6))))
      (.cons (.set 8 (.bin .mod (.var 0) (.int 3)))
      (.cons (.set 0 (.bin .fdiv (.var 0) (.int 3)))
      (.cons (.ite (.band (.cmp .eq (.var 8) (.int 0)) (.cmp .lt (.bl1 .len (.var 4)) (.bin .add (.var 1) (.var 3))))
      (.cons (.expr (.mut .insert (.ix (.nm 4) (.ix (.var 7) (.int 0))) (.cons (.ix (.var 7) (.int 1)) (.cons (.var 5) .nil))))
      (.cons (.expr (.mut .append (.nm 4) (.cons (.lst (.cons (.var 5) .nil)) .nil)))
      .nil))
      (.cons (.set 9 (.call "_law_region" (.cons (.borA 4) (.var 4) (.cons .val (.var 1) (.cons .val (.frz (.call "_law_mates" (.cons .bor (.var 4) .nil))) (.cons .val (.var 7) .nil))))))
      (.cons (.frz 9)
      (.cons (.set 10 (.ix (.var 9) (.bin .mod (.var 0) (.bl1 .len (.var 9)))))
      (.cons (.set 0 (.bin .fdiv (.var 0) (.bl1 .len (.var 9))))
      (.cons (.forr (.tp (.nm 11) (.nm 12)) (.seq (.srt (.lst (.cons (.var 7) (.cons (.var 10) .nil))) true)) b_law_grown_1)
      .nil))))))
      .nil)))))))
def b_law_grown : Ss :=
    (.cons (.set 4 (.comp (.lst .nil) (.nm 11) (.rng1 (.var 1)) .no [11]))
      (.cons (.forr (.nm 5) (.rng1 (.var 2)) b_law_grown_2)
      (.cons (.ret (.tup (.cons (.mov 4) (.cons (.var 0) .nil))))
      .nil)))
def d_law_grown : Df := { name := "_law_grown", ps := ["_law_big_here", "_law_posts", "_law_many", "_law_within"], N := ["_law_big_here", "_law_posts", "_law_many", "_law_within", "_law_turns", "_law_wire", "_law_corners_here", "_law_one", "_law_way", "_law_region_here", "_law_other", "_law_p", "_law_k"], body := b_law_grown, ast := topS 17 }
abbrev b_law_names_1 : Ss :=
    (.cons (.set 5 (.bin .add (.var 5) (.ix (.var 2) (.bin .mod (.var 6) (.int 36)))))
      (.cons (.set 6 (.bin .fdiv (.var 6) (.int 36)))
      .nil))
abbrev b_law_names_2 : Ss :=
    (.cons (.set 12 (.ix (.var 2) (.bin .mod (.bin .add (.bin .add (.var 8) (.int 1)) (.bin .fdiv (.var 7) (.int 7))) (.int 36))))
      (.cons (.expr (.mut .append (.nm 11) (.cons (.bin .add (.bin .mul (.ix (.var 2) (.var 8)) (.bin .add (.int 1) (.bin .mod (.var 7) (.int 7)))) (.bin .mul (.var 12) (.bl1 .int (.cmp .gt (.var 7) (.int 6))))) .nil)))
      .nil))
def b_law_names : Ss :=
    (.cons (.set 2 (.str "abcdefghijklmnopqrstuvwxyz0123456789"))
      (.cons (.set 3 (.bin .add (.int 1) (.bin .mod (.var 0) (.int 8))))
      (.cons (.set 4 (.bin .mod (.bin .fdiv (.var 0) (.int 8)) (.var 3)))
      (.cons (.set 5 (.str ""))
      (.cons (.set 6 (.bin .fdiv (.var 0) (.int 64)))
      (.cons (.forr (.nm 7) (.rng1 (.var 3)) b_law_names_1)
      (.cons (.set 8 (.bin .mod (.var 6) (.int 36)))
      (.cons (.asg (.tp (.nm 9) (.nm 10)) (.frz (.tup (.cons (.sl (.var 5) .no (.so (.var 4))) (.cons (.sl (.var 5) (.so (.bin .add (.var 4) (.int 1))) .no) .nil)))))
      (.cons (.set 11 (.comp (.bin .add (.bin .add (.var 9) (.ix (.var 2) (.bin .mod (.bin .add (.var 8) (.bin .mul (.int 7) (.var 7))) (.int 36)))) (.var 10)) (.nm 7) (.rng1 (.var 1)) .no [7]))
      (.cons (.ite (.cmp .eq (.bin .mod (.bin .fdiv (.var 6) (.int 36)) (.int 3)) (.int 0))
      (.cons (.set 11 (.lst .nil))
      (.cons (.forr (.nm 7) (.rng1 (.var 1)) b_law_names_2)
      .nil))
      .nil)
      (.cons (.ret (.mov 11))
      .nil)))))))))))
def d_law_names : Df := { name := "_law_names", ps := ["_law_big_here", "_law_many"], N := ["_law_big_here", "_law_many", "_law_signs", "_law_size", "_law_spot", "_law_word", "_law_rest", "_law_k", "_law_first", "_law_head", "_law_tail", "_law_names_here", "_law_more"], body := b_law_names, ast := topS 18 }
abbrev b_law_begun_1 : Ss :=
    (.cons (.set 4 (.bin .mod (.var 2) (.bl1 .len (.ix (.var 0) (.var 3)))))
      (.cons (.set 2 (.bin .fdiv (.var 2) (.bl1 .len (.ix (.var 0) (.var 3)))))
      (.cons (.put (.nm 0) (.var 3) (.frz (.bin .add (.sl (.ix (.var 0) (.var 3)) (.so (.var 4)) .no) (.sl (.ix (.var 0) (.var 3)) .no (.so (.var 4))))))
      .nil)))
def b_law_begun : Ss :=
    (.cons (.forr (.nm 3) (.rng2 (.var 1) (.bl1 .len (.var 0))) b_law_begun_1)
      (.cons (.ret (.mov 0))
      .nil))
def d_law_begun : Df := { name := "_law_begun", ps := ["_law_turns", "_law_posts", "_law_big_here"], N := ["_law_turns", "_law_posts", "_law_big_here", "_law_p", "_law_turn"], body := b_law_begun, ast := topS 19 }
abbrev b_law_net_by_1 : Ss :=
    (.cons (.set 11 (.mut .popAt (.nm 9) (.cons (.bin .mod (.var 3) (.bl1 .len (.var 9))) .nil)))
      (.cons (.set 3 (.bin .fdiv (.var 3) (.bin .add (.bl1 .len (.var 9)) (.int 1))))
      (.cons (.expr (.mutA .append 10 (.cons (.frz (.tup (.cons (.ix (.var 7) (.var 11)) (.cons (.comp (.ix (.var 8) (.var 13)) (.nm 13) (.seq (.ix (.var 6) (.var 11))) .no [13]) .nil)))) .nil)))
      .nil)))
abbrev b_law_net_by_2 : Ss :=
    (.cons (.asg (.tp (.nm 14) (.nm 3)) (.call "_law_worth_of" (.cons .val (.var 3) .nil)))
      (.cons (.expr (.mut .append (.nm 12) (.cons (.tup (.cons (.ix (.var 8) (.var 13)) (.cons (.var 14) .nil))) .nil)))
      .nil))
def b_law_net_by : Ss :=
    (.cons (.set 3 (.call "_law_big" (.cons .val (.var 0) (.cons .val (.var 1) .nil))))
      (.cons (.set 4 (.bin .add (.int 1) (.bin .mod (.var 3) (.int 6))))
      (.cons (.set 5 (.bin .mod (.bin .fdiv (.var 3) (.int 6)) (.bin .add (.var 2) (.int 1))))
      (.cons (.ite (.cmp .eq (.bin .mod (.bin .fdiv (.bin .fdiv (.var 3) (.int 6)) (.bin .add (.var 2) (.int 1))) (.int 8)) (.int 3))
      (.cons (.set 5 (.bin .mod (.bin .fdiv (.bin .fdiv (.var 3) (.int 48)) (.bin .add (.var 2) (.int 1))) (.int 16)))
      .nil)
      .nil)
      (.cons (.asg (.tp (.nm 6) (.nm 3)) (.call "_law_grown" (.cons .val (.bin .fdiv (.bin .fdiv (.var 3) (.int 768)) (.bin .add (.var 2) (.int 1))) (.cons .val (.var 4) (.cons .val (.var 5) (.cons .val (.int 10) .nil))))))
      (.cons (.set 7 (.call "_law_names" (.cons .val (.call "_law_big" (.cons .val (.var 0) (.cons .val (.bin .add (.var 1) (.int 1)) .nil))) (.cons .val (.bl1 .len (.var 6)) .nil))))
      (.cons (.frz 7)
      (.cons (.set 8 (.call "_law_names" (.cons .val (.call "_law_big" (.cons .val (.var 0) (.cons .val (.bin .add (.var 1) (.int 2)) .nil))) (.cons .val (.var 5) .nil))))
      (.cons (.frz 8)
      (.cons (.set 6 (.call "_law_begun" (.cons (.lend 6) (.var 6) (.cons .val (.var 4) (.cons .val (.var 3) .nil)))))
      (.cons (.frz 6)
      (.cons (.set 9 (.lrg (.bl1 .len (.var 6))))
      (.cons (.set 3 (.call "_law_big" (.cons .val (.var 0) (.cons .val (.bin .add (.var 1) (.int 3)) .nil))))
      (.cons (.set 10 (.lst .nil))
      (.cons (.whl (.cmp .ne (.var 9) (.lst .nil)) b_law_net_by_1)
      (.cons (.frz 10)
      (.cons (.set 12 (.lst .nil))
      (.cons (.forr (.nm 13) (.rng1 (.var 5)) b_law_net_by_2)
      (.cons (.frz 12)
      (.cons (.ret (.tup (.cons (.sl (.var 7) .no (.so (.var 4))) (.cons (.mov 10) (.cons (.srt (.mov 12) false) .nil)))))
      .nil))))))))))))))))))))
def d_law_net_by : Df := { name := "_law_net_by", ps := ["_law_script", "_law_at", "_law_most"], N := ["_law_script", "_law_at", "_law_most", "_law_big_here", "_law_posts", "_law_many", "_law_turns", "_law_names_here", "_law_wires", "_law_order", "_law_rows", "_law_p", "_law_worths", "_law_wire", "_law_worth"], body := b_law_net_by, ast := topS 20 }
def b_law_copy : Ss :=
    (.cons (.ret (.tup (.cons (.bl1 .list (.ix (.var 0) (.int 0))) (.cons (.comp (.tup (.cons (.var 1) (.cons (.bl1 .list (.var 2)) .nil))) (.tp (.nm 1) (.nm 2)) (.seq (.ix (.var 0) (.int 1))) .no [1, 2]) (.cons (.bl1 .list (.ix (.var 0) (.int 2))) .nil)))))
      .nil)
def d_law_copy : Df := { name := "_law_copy", ps := ["_law_net"], N := ["_law_net", "_law_point", "_law_wires"], body := b_law_copy, ast := topS 21 }
abbrev b_law_tuples_1 : Ss :=
    (.cons (.ite (.bor (.not (.isi (.var 2) .tuple)) (.bor (.not (.isi (.ix (.var 2) (.int 0)) .str)) (.isi (.ix (.var 2) (.int 1)) .bool)))
      (.cons (.ret (.bl false))
      .nil)
      .nil)
      .nil)
def b_law_tuples : Ss :=
    (.cons (.ite (.bor (.not (.isi (.var 0) .list)) (.cmp .ne (.var 0) (.var 1)))
      (.cons (.ret (.bl false))
      .nil)
      .nil)
      (.cons (.forr (.nm 2) (.seq (.var 0)) b_law_tuples_1)
      (.cons (.ret (.bl true))
      .nil)))
def d_law_tuples : Df := { name := "_law_tuples", ps := ["_law_found", "_law_due"], N := ["_law_found", "_law_due", "_law_one"], body := b_law_tuples, ast := topS 22 }
abbrev b_law_right_1 : Ss :=
    (.cons (.expr (.sdf 4 (.ix (.var 6) (.var 7)) (.tup (.cons (.var 5) (.cons (.var 7) .nil)))))
      .nil)
abbrev b_law_right_2 : Ss :=
    (.cons (.set 3 (.bin .add (.var 3) (.comp (.tup (.cons (.var 5) (.cons (.var 7) .nil))) (.nm 7) (.rng1 (.bin .add (.bl1 .len (.var 6)) (.bl1 .int (.cmp .isin (.var 5) (.ix (.var 0) (.int 0)))))) .no [7])))
      (.cons (.frz 3)
      (.cons (.forr (.nm 7) (.rng1 (.bl1 .len (.var 6))) b_law_right_1)
      .nil)))
abbrev b_law_right_3 : Ss :=
    (.cons (.asg (.tp (.nm 10) (.nm 11)) (.ix (.var 4) (.var 9)))
      (.cons (.set 12 (.call "ends_of" (.cons .val (.var 1) (.cons .val (.var 9) .nil))))
      (.cons (.ite (.not (.call "_law_tuples" (.cons .bor (.var 12) (.cons .val (.lst (.cons (.var 10) (.cons (.var 11) .nil))) .nil))))
      (.cons (.ret (.bl false))
      .nil)
      .nil)
      (.cons (.expr (.mut .reverse (.nm 12) .nil))
      (.cons (.ite (.bor (.cmp .ne (.call "other_end" (.cons .val (.var 1) (.cons .val (.var 10) .nil))) (.var 11)) (.cmp .ne (.call "other_end" (.cons .val (.var 1) (.cons .val (.var 11) .nil))) (.var 10)))
      (.cons (.ret (.bl false))
      .nil)
      .nil)
      .nil)))))
def b_law_right : Ss :=
    (.cons (.set 2 (.call "points_within" (.cons .val (.var 1) .nil)))
      (.cons (.ite (.bor (.not (.isi (.var 2) .list)) (.cmpA .ne 2 (.comp (.var 5) (.tp (.nm 5) (.nm 6)) (.seq (.ix (.var 0) (.int 1))) (.so (.cmp .notin (.var 5) (.ix (.var 0) (.int 0)))) [5, 6])))
      (.cons (.ret (.bl false))
      .nil)
      .nil)
      (.cons (.expr (.mut .append (.nm 2) (.cons (.str "zz") .nil)))
      (.cons (.set 3 (.lst .nil))
      (.cons (.frz 3)
      (.cons (.set 4 .dkn)
      (.cons (.forr (.tp (.nm 5) (.nm 6)) (.seq (.ix (.var 0) (.int 1))) b_law_right_2)
      (.cons (.set 8 (.call "corners_of" (.cons .val (.var 1) .nil)))
      (.cons (.ite (.not (.call "_law_tuples" (.cons .bor (.var 8) (.cons .val (.var 3) .nil))))
      (.cons (.ret (.bl false))
      .nil)
      .nil)
      (.cons (.expr (.mut .clear (.nm 8) .nil))
      (.cons (.forr (.nm 9) (.seq (.lkv 4)) b_law_right_3)
      (.cons (.ret (.cmp .eq (.var 1) (.call "_law_copy" (.cons .val (.var 0) .nil))))
      .nil))))))))))))
def d_law_right : Df := { name := "_law_right", ps := ["_law_net", "_law_handed"], N := ["_law_net", "_law_handed", "_law_within", "_law_due", "_law_ends", "_law_point", "_law_wires", "_law_k", "_law_found", "_law_wire", "_law_one", "_law_other", "_law_told"], body := b_law_right, ast := topS 23 }
def b_law : Ss :=
    (.cons (.set 1 (.call "_law_net_by" (.cons .val (.var 0) (.cons .val (.int 0) (.cons .val (.int 9) .nil)))))
      (.cons (.frz 1)
      (.cons (.set 2 (.call "_law_copy" (.cons .val (.var 1) .nil)))
      (.cons (.frz 2)
      (.cons (.ret (.band (.call "_law_right" (.cons .val (.var 1) (.cons .val (.var 2) .nil))) (.call "_law_right" (.cons .val (.var 1) (.cons .val (.var 2) .nil)))))
      .nil)))))
def d_law : Df := { name := "law", ps := ["_law_script"], N := ["_law_script", "_law_net", "_law_handed"], body := b_law, ast := topS 24 }
def T : List Df := [d_turns_of, d_mates_of, d_points_within, d_ends_of, d_other_end, d_corner_count, d_corners_of, d_law_cell_at, d_law_big, d_law_low, d_law_worth_of, d_law_mates, d_law_corners, d_law_corner_behind, d_law_region, d_law_grown, d_law_names, d_law_begun, d_law_net_by, d_law_copy, d_law_tuples, d_law_right, d_law]
def B : List Str := ["abs", "bool", "enumerate", "int", "isinstance", "len", "list", "range", "sorted", "str", "tuple"]
theorem nodupT : (T.map (·.name)).Nodup := by decide +kernel
theorem chkT0 : T.all (chkD B T) = true := by decide +kernel
theorem chkT : ∀ d ∈ T, chkD B T d = true := fun d hd => List.all_eq_true.mp chkT0 d hd
theorem r_cell {n k : Nat} : CellF (run T n (k + 1)) := fun ns i h => (run_b (d := d_law_cell_at) nodupT (by simp [T]) rfl).trans (cell_ok h)
theorem r_big {n k : Nat} {ns : List Int} {at0 : Int} (h : 0 ≤ at0) : ∃ v, run T n (k + 2) "_law_big" [scr ns, iO at0] = .ok (iO v) [some (scr ns), some (iO at0)] ∧ 0 ≤ v ∧ (v = cellN ns at0 ∨ v.natAbs < 2 ^ (13 * 60)) := by
  obtain ⟨v, h1, h2⟩ := big_ok (n := n) (r_cell (n := n) (k := k)) (ns := ns) h
  exact ⟨v, (run_b (d := d_law_big) nodupT (by simp [T]) rfl).trans h1, h2⟩
theorem r_low {n k : Nat} {a b : Int} (hb : 0 < b) (hs : b.natAbs < 2 ^ 8999) (hn : b.natAbs < n) : run T n (k + 1) "_law_low" [iO a, iO b] = .ok (frO a b) [some (iO a), some (iO b)] :=
  (run_b (d := d_law_low) nodupT (by simp [T]) rfl).trans (low_ok hb hs hn)
theorem all_mk {P : Program} {w : World} {K : PySem.W.Frag} {h : Heap} {mg : Str → Option Value} {fa : Addr} (X : K.In h) (G : h.Ns mainGlobals mg) (hfa : mg "law" = some (.ref fa))
    {f0 : Addr} {od0 an0 : Option Addr} {sl0 : Array (Option Value)} {oc0 kV0 dc0 pm0 cd0 ct0 : Value} (a0 : PySem.W.nsIn K mainGlobals "turns_of" = some (some (.ref f0))) (l0 : K.lookup f0 = some ⟨oc0, od0, .func (PySem.W.fnOf "turns_of" "turns_of" (defArgs (topS 1)) (defBody (topS 1)) (defScope (topS 1)) .none kV0 dc0 pm0 an0 cd0 ct0), sl0⟩) (c0 : PySem.W.codeIn K cd0 "turns_of" = true) (k0 : PySem.W.keepIn K (.ref f0) = true)
    {f1 : Addr} {od1 an1 : Option Addr} {sl1 : Array (Option Value)} {oc1 kV1 dc1 pm1 cd1 ct1 : Value} (a1 : PySem.W.nsIn K mainGlobals "mates_of" = some (some (.ref f1))) (l1 : K.lookup f1 = some ⟨oc1, od1, .func (PySem.W.fnOf "mates_of" "mates_of" (defArgs (topS 2)) (defBody (topS 2)) (defScope (topS 2)) .none kV1 dc1 pm1 an1 cd1 ct1), sl1⟩) (c1 : PySem.W.codeIn K cd1 "mates_of" = true) (k1 : PySem.W.keepIn K (.ref f1) = true)
    {f2 : Addr} {od2 an2 : Option Addr} {sl2 : Array (Option Value)} {oc2 kV2 dc2 pm2 cd2 ct2 : Value} (a2 : PySem.W.nsIn K mainGlobals "points_within" = some (some (.ref f2))) (l2 : K.lookup f2 = some ⟨oc2, od2, .func (PySem.W.fnOf "points_within" "points_within" (defArgs (topS 3)) (defBody (topS 3)) (defScope (topS 3)) .none kV2 dc2 pm2 an2 cd2 ct2), sl2⟩) (c2 : PySem.W.codeIn K cd2 "points_within" = true) (k2 : PySem.W.keepIn K (.ref f2) = true)
    {f3 : Addr} {od3 an3 : Option Addr} {sl3 : Array (Option Value)} {oc3 kV3 dc3 pm3 cd3 ct3 : Value} (a3 : PySem.W.nsIn K mainGlobals "ends_of" = some (some (.ref f3))) (l3 : K.lookup f3 = some ⟨oc3, od3, .func (PySem.W.fnOf "ends_of" "ends_of" (defArgs (topS 4)) (defBody (topS 4)) (defScope (topS 4)) .none kV3 dc3 pm3 an3 cd3 ct3), sl3⟩) (c3 : PySem.W.codeIn K cd3 "ends_of" = true) (k3 : PySem.W.keepIn K (.ref f3) = true)
    {f4 : Addr} {od4 an4 : Option Addr} {sl4 : Array (Option Value)} {oc4 kV4 dc4 pm4 cd4 ct4 : Value} (a4 : PySem.W.nsIn K mainGlobals "other_end" = some (some (.ref f4))) (l4 : K.lookup f4 = some ⟨oc4, od4, .func (PySem.W.fnOf "other_end" "other_end" (defArgs (topS 5)) (defBody (topS 5)) (defScope (topS 5)) .none kV4 dc4 pm4 an4 cd4 ct4), sl4⟩) (c4 : PySem.W.codeIn K cd4 "other_end" = true) (k4 : PySem.W.keepIn K (.ref f4) = true)
    {f5 : Addr} {od5 an5 : Option Addr} {sl5 : Array (Option Value)} {oc5 kV5 dc5 pm5 cd5 ct5 : Value} (a5 : PySem.W.nsIn K mainGlobals "corner_count" = some (some (.ref f5))) (l5 : K.lookup f5 = some ⟨oc5, od5, .func (PySem.W.fnOf "corner_count" "corner_count" (defArgs (topS 6)) (defBody (topS 6)) (defScope (topS 6)) .none kV5 dc5 pm5 an5 cd5 ct5), sl5⟩) (c5 : PySem.W.codeIn K cd5 "corner_count" = true) (k5 : PySem.W.keepIn K (.ref f5) = true)
    {f6 : Addr} {od6 an6 : Option Addr} {sl6 : Array (Option Value)} {oc6 kV6 dc6 pm6 cd6 ct6 : Value} (a6 : PySem.W.nsIn K mainGlobals "corners_of" = some (some (.ref f6))) (l6 : K.lookup f6 = some ⟨oc6, od6, .func (PySem.W.fnOf "corners_of" "corners_of" (defArgs (topS 7)) (defBody (topS 7)) (defScope (topS 7)) .none kV6 dc6 pm6 an6 cd6 ct6), sl6⟩) (c6 : PySem.W.codeIn K cd6 "corners_of" = true) (k6 : PySem.W.keepIn K (.ref f6) = true)
    {f7 : Addr} {od7 an7 : Option Addr} {sl7 : Array (Option Value)} {oc7 kV7 dc7 pm7 cd7 ct7 : Value} (a7 : PySem.W.nsIn K mainGlobals "_law_cell_at" = some (some (.ref f7))) (l7 : K.lookup f7 = some ⟨oc7, od7, .func (PySem.W.fnOf "_law_cell_at" "_law_cell_at" (defArgs (topS 9)) (defBody (topS 9)) (defScope (topS 9)) .none kV7 dc7 pm7 an7 cd7 ct7), sl7⟩) (c7 : PySem.W.codeIn K cd7 "_law_cell_at" = true) (k7 : PySem.W.keepIn K (.ref f7) = true)
    {f8 : Addr} {od8 an8 : Option Addr} {sl8 : Array (Option Value)} {oc8 kV8 dc8 pm8 cd8 ct8 : Value} (a8 : PySem.W.nsIn K mainGlobals "_law_big" = some (some (.ref f8))) (l8 : K.lookup f8 = some ⟨oc8, od8, .func (PySem.W.fnOf "_law_big" "_law_big" (defArgs (topS 10)) (defBody (topS 10)) (defScope (topS 10)) .none kV8 dc8 pm8 an8 cd8 ct8), sl8⟩) (c8 : PySem.W.codeIn K cd8 "_law_big" = true) (k8 : PySem.W.keepIn K (.ref f8) = true)
    {f9 : Addr} {od9 an9 : Option Addr} {sl9 : Array (Option Value)} {oc9 kV9 dc9 pm9 cd9 ct9 : Value} (a9 : PySem.W.nsIn K mainGlobals "_law_low" = some (some (.ref f9))) (l9 : K.lookup f9 = some ⟨oc9, od9, .func (PySem.W.fnOf "_law_low" "_law_low" (defArgs (topS 11)) (defBody (topS 11)) (defScope (topS 11)) .none kV9 dc9 pm9 an9 cd9 ct9), sl9⟩) (c9 : PySem.W.codeIn K cd9 "_law_low" = true) (k9 : PySem.W.keepIn K (.ref f9) = true)
    {f10 : Addr} {od10 an10 : Option Addr} {sl10 : Array (Option Value)} {oc10 kV10 dc10 pm10 cd10 ct10 : Value} (a10 : PySem.W.nsIn K mainGlobals "_law_worth_of" = some (some (.ref f10))) (l10 : K.lookup f10 = some ⟨oc10, od10, .func (PySem.W.fnOf "_law_worth_of" "_law_worth_of" (defArgs (topS 12)) (defBody (topS 12)) (defScope (topS 12)) .none kV10 dc10 pm10 an10 cd10 ct10), sl10⟩) (c10 : PySem.W.codeIn K cd10 "_law_worth_of" = true) (k10 : PySem.W.keepIn K (.ref f10) = true)
    {f11 : Addr} {od11 an11 : Option Addr} {sl11 : Array (Option Value)} {oc11 kV11 dc11 pm11 cd11 ct11 : Value} (a11 : PySem.W.nsIn K mainGlobals "_law_mates" = some (some (.ref f11))) (l11 : K.lookup f11 = some ⟨oc11, od11, .func (PySem.W.fnOf "_law_mates" "_law_mates" (defArgs (topS 13)) (defBody (topS 13)) (defScope (topS 13)) .none kV11 dc11 pm11 an11 cd11 ct11), sl11⟩) (c11 : PySem.W.codeIn K cd11 "_law_mates" = true) (k11 : PySem.W.keepIn K (.ref f11) = true)
    {f12 : Addr} {od12 an12 : Option Addr} {sl12 : Array (Option Value)} {oc12 kV12 dc12 pm12 cd12 ct12 : Value} (a12 : PySem.W.nsIn K mainGlobals "_law_corners" = some (some (.ref f12))) (l12 : K.lookup f12 = some ⟨oc12, od12, .func (PySem.W.fnOf "_law_corners" "_law_corners" (defArgs (topS 14)) (defBody (topS 14)) (defScope (topS 14)) .none kV12 dc12 pm12 an12 cd12 ct12), sl12⟩) (c12 : PySem.W.codeIn K cd12 "_law_corners" = true) (k12 : PySem.W.keepIn K (.ref f12) = true)
    {f13 : Addr} {od13 an13 : Option Addr} {sl13 : Array (Option Value)} {oc13 kV13 dc13 pm13 cd13 ct13 : Value} (a13 : PySem.W.nsIn K mainGlobals "_law_corner_behind" = some (some (.ref f13))) (l13 : K.lookup f13 = some ⟨oc13, od13, .func (PySem.W.fnOf "_law_corner_behind" "_law_corner_behind" (defArgs (topS 15)) (defBody (topS 15)) (defScope (topS 15)) .none kV13 dc13 pm13 an13 cd13 ct13), sl13⟩) (c13 : PySem.W.codeIn K cd13 "_law_corner_behind" = true) (k13 : PySem.W.keepIn K (.ref f13) = true)
    {f14 : Addr} {od14 an14 : Option Addr} {sl14 : Array (Option Value)} {oc14 kV14 dc14 pm14 cd14 ct14 : Value} (a14 : PySem.W.nsIn K mainGlobals "_law_region" = some (some (.ref f14))) (l14 : K.lookup f14 = some ⟨oc14, od14, .func (PySem.W.fnOf "_law_region" "_law_region" (defArgs (topS 16)) (defBody (topS 16)) (defScope (topS 16)) .none kV14 dc14 pm14 an14 cd14 ct14), sl14⟩) (c14 : PySem.W.codeIn K cd14 "_law_region" = true) (k14 : PySem.W.keepIn K (.ref f14) = true)
    {f15 : Addr} {od15 an15 : Option Addr} {sl15 : Array (Option Value)} {oc15 kV15 dc15 pm15 cd15 ct15 : Value} (a15 : PySem.W.nsIn K mainGlobals "_law_grown" = some (some (.ref f15))) (l15 : K.lookup f15 = some ⟨oc15, od15, .func (PySem.W.fnOf "_law_grown" "_law_grown" (defArgs (topS 17)) (defBody (topS 17)) (defScope (topS 17)) .none kV15 dc15 pm15 an15 cd15 ct15), sl15⟩) (c15 : PySem.W.codeIn K cd15 "_law_grown" = true) (k15 : PySem.W.keepIn K (.ref f15) = true)
    {f16 : Addr} {od16 an16 : Option Addr} {sl16 : Array (Option Value)} {oc16 kV16 dc16 pm16 cd16 ct16 : Value} (a16 : PySem.W.nsIn K mainGlobals "_law_names" = some (some (.ref f16))) (l16 : K.lookup f16 = some ⟨oc16, od16, .func (PySem.W.fnOf "_law_names" "_law_names" (defArgs (topS 18)) (defBody (topS 18)) (defScope (topS 18)) .none kV16 dc16 pm16 an16 cd16 ct16), sl16⟩) (c16 : PySem.W.codeIn K cd16 "_law_names" = true) (k16 : PySem.W.keepIn K (.ref f16) = true)
    {f17 : Addr} {od17 an17 : Option Addr} {sl17 : Array (Option Value)} {oc17 kV17 dc17 pm17 cd17 ct17 : Value} (a17 : PySem.W.nsIn K mainGlobals "_law_begun" = some (some (.ref f17))) (l17 : K.lookup f17 = some ⟨oc17, od17, .func (PySem.W.fnOf "_law_begun" "_law_begun" (defArgs (topS 19)) (defBody (topS 19)) (defScope (topS 19)) .none kV17 dc17 pm17 an17 cd17 ct17), sl17⟩) (c17 : PySem.W.codeIn K cd17 "_law_begun" = true) (k17 : PySem.W.keepIn K (.ref f17) = true)
    {f18 : Addr} {od18 an18 : Option Addr} {sl18 : Array (Option Value)} {oc18 kV18 dc18 pm18 cd18 ct18 : Value} (a18 : PySem.W.nsIn K mainGlobals "_law_net_by" = some (some (.ref f18))) (l18 : K.lookup f18 = some ⟨oc18, od18, .func (PySem.W.fnOf "_law_net_by" "_law_net_by" (defArgs (topS 20)) (defBody (topS 20)) (defScope (topS 20)) .none kV18 dc18 pm18 an18 cd18 ct18), sl18⟩) (c18 : PySem.W.codeIn K cd18 "_law_net_by" = true) (k18 : PySem.W.keepIn K (.ref f18) = true)
    {f19 : Addr} {od19 an19 : Option Addr} {sl19 : Array (Option Value)} {oc19 kV19 dc19 pm19 cd19 ct19 : Value} (a19 : PySem.W.nsIn K mainGlobals "_law_copy" = some (some (.ref f19))) (l19 : K.lookup f19 = some ⟨oc19, od19, .func (PySem.W.fnOf "_law_copy" "_law_copy" (defArgs (topS 21)) (defBody (topS 21)) (defScope (topS 21)) .none kV19 dc19 pm19 an19 cd19 ct19), sl19⟩) (c19 : PySem.W.codeIn K cd19 "_law_copy" = true) (k19 : PySem.W.keepIn K (.ref f19) = true)
    {f20 : Addr} {od20 an20 : Option Addr} {sl20 : Array (Option Value)} {oc20 kV20 dc20 pm20 cd20 ct20 : Value} (a20 : PySem.W.nsIn K mainGlobals "_law_tuples" = some (some (.ref f20))) (l20 : K.lookup f20 = some ⟨oc20, od20, .func (PySem.W.fnOf "_law_tuples" "_law_tuples" (defArgs (topS 22)) (defBody (topS 22)) (defScope (topS 22)) .none kV20 dc20 pm20 an20 cd20 ct20), sl20⟩) (c20 : PySem.W.codeIn K cd20 "_law_tuples" = true) (k20 : PySem.W.keepIn K (.ref f20) = true)
    {f21 : Addr} {od21 an21 : Option Addr} {sl21 : Array (Option Value)} {oc21 kV21 dc21 pm21 cd21 ct21 : Value} (a21 : PySem.W.nsIn K mainGlobals "_law_right" = some (some (.ref f21))) (l21 : K.lookup f21 = some ⟨oc21, od21, .func (PySem.W.fnOf "_law_right" "_law_right" (defArgs (topS 23)) (defBody (topS 23)) (defScope (topS 23)) .none kV21 dc21 pm21 an21 cd21 ct21), sl21⟩) (c21 : PySem.W.codeIn K cd21 "_law_right" = true) (k21 : PySem.W.keepIn K (.ref f21) = true)
    {f22 : Addr} {od22 an22 : Option Addr} {sl22 : Array (Option Value)} {oc22 kV22 dc22 pm22 cd22 ct22 : Value} (a22 : PySem.W.nsIn K mainGlobals "law" = some (some (.ref f22))) (l22 : K.lookup f22 = some ⟨oc22, od22, .func (PySem.W.fnOf "law" "law" (defArgs (topS 24)) (defBody (topS 24)) (defScope (topS 24)) .none kV22 dc22 pm22 an22 cd22 ct22), sl22⟩) (c22 : PySem.W.codeIn K cd22 "law" = true) (k22 : PySem.W.keepIn K (.ref f22) = true)
    (z0 : PySem.W.nsIn K mainGlobals "abs" = some none)
    (z1 : PySem.W.nsIn K mainGlobals "bool" = some none)
    (z2 : PySem.W.nsIn K mainGlobals "enumerate" = some none)
    (z3 : PySem.W.nsIn K mainGlobals "int" = some none)
    (z4 : PySem.W.nsIn K mainGlobals "isinstance" = some none)
    (z5 : PySem.W.nsIn K mainGlobals "len" = some none)
    (z6 : PySem.W.nsIn K mainGlobals "list" = some none)
    (z7 : PySem.W.nsIn K mainGlobals "range" = some none)
    (z8 : PySem.W.nsIn K mainGlobals "sorted" = some none)
    (z9 : PySem.W.nsIn K mainGlobals "str" = some none)
    (z10 : PySem.W.nsIn K mainGlobals "tuple" = some none)
    : ∃ fd : FuncData, (∀ (s : Shared) (v : Value), BindsTo s fd ⟨[v], []⟩ [("_law_script", v)]) ∧ ∀ base : Heap, K.In base → base.Ns mainGlobals mg → FnOk P w K mg base (L2.CX P w) 12 fa fd ["_law_script"] (Rim.spL K (fun _ => .none) T 12 "law" 1) := by
  have e := hfa.symm.trans (PySem.W.mg_of X G a22)
  cases e
  have F0 : Fun K d_turns_of.name d_turns_of.name d_turns_of.ast _ _ := fun_mk (st := topS 1) l0 c0 k0
  have O0 : Obj1 K mg d_turns_of := ⟨_, _, F0, F0.binds (ps := d_turns_of.ps) fun _ _ _ _ _ _ us hl => match us, hl with | [_], _ => rfl, PySem.W.mg_of X G a0⟩
  have F1 : Fun K d_mates_of.name d_mates_of.name d_mates_of.ast _ _ := fun_mk (st := topS 2) l1 c1 k1
  have O1 : Obj1 K mg d_mates_of := ⟨_, _, F1, F1.binds (ps := d_mates_of.ps) fun _ _ _ _ _ _ us hl => match us, hl with | [_], _ => rfl, PySem.W.mg_of X G a1⟩
  have F2 : Fun K d_points_within.name d_points_within.name d_points_within.ast _ _ := fun_mk (st := topS 3) l2 c2 k2
  have O2 : Obj1 K mg d_points_within := ⟨_, _, F2, F2.binds (ps := d_points_within.ps) fun _ _ _ _ _ _ us hl => match us, hl with | [_], _ => rfl, PySem.W.mg_of X G a2⟩
  have F3 : Fun K d_ends_of.name d_ends_of.name d_ends_of.ast _ _ := fun_mk (st := topS 4) l3 c3 k3
  have O3 : Obj1 K mg d_ends_of := ⟨_, _, F3, F3.binds (ps := d_ends_of.ps) fun _ _ _ _ _ _ us hl => match us, hl with | [_, _], _ => rfl, PySem.W.mg_of X G a3⟩
  have F4 : Fun K d_other_end.name d_other_end.name d_other_end.ast _ _ := fun_mk (st := topS 5) l4 c4 k4
  have O4 : Obj1 K mg d_other_end := ⟨_, _, F4, F4.binds (ps := d_other_end.ps) fun _ _ _ _ _ _ us hl => match us, hl with | [_, _], _ => rfl, PySem.W.mg_of X G a4⟩
  have F5 : Fun K d_corner_count.name d_corner_count.name d_corner_count.ast _ _ := fun_mk (st := topS 6) l5 c5 k5
  have O5 : Obj1 K mg d_corner_count := ⟨_, _, F5, F5.binds (ps := d_corner_count.ps) fun _ _ _ _ _ _ us hl => match us, hl with | [_, _, _], _ => rfl, PySem.W.mg_of X G a5⟩
  have F6 : Fun K d_corners_of.name d_corners_of.name d_corners_of.ast _ _ := fun_mk (st := topS 7) l6 c6 k6
  have O6 : Obj1 K mg d_corners_of := ⟨_, _, F6, F6.binds (ps := d_corners_of.ps) fun _ _ _ _ _ _ us hl => match us, hl with | [_], _ => rfl, PySem.W.mg_of X G a6⟩
  have F7 : Fun K d_law_cell_at.name d_law_cell_at.name d_law_cell_at.ast _ _ := fun_mk (st := topS 9) l7 c7 k7
  have O7 : Obj1 K mg d_law_cell_at := ⟨_, _, F7, F7.binds (ps := d_law_cell_at.ps) fun _ _ _ _ _ _ us hl => match us, hl with | [_, _], _ => rfl, PySem.W.mg_of X G a7⟩
  have F8 : Fun K d_law_big.name d_law_big.name d_law_big.ast _ _ := fun_mk (st := topS 10) l8 c8 k8
  have O8 : Obj1 K mg d_law_big := ⟨_, _, F8, F8.binds (ps := d_law_big.ps) fun _ _ _ _ _ _ us hl => match us, hl with | [_, _], _ => rfl, PySem.W.mg_of X G a8⟩
  have F9 : Fun K d_law_low.name d_law_low.name d_law_low.ast _ _ := fun_mk (st := topS 11) l9 c9 k9
  have O9 : Obj1 K mg d_law_low := ⟨_, _, F9, F9.binds (ps := d_law_low.ps) fun _ _ _ _ _ _ us hl => match us, hl with | [_, _], _ => rfl, PySem.W.mg_of X G a9⟩
  have F10 : Fun K d_law_worth_of.name d_law_worth_of.name d_law_worth_of.ast _ _ := fun_mk (st := topS 12) l10 c10 k10
  have O10 : Obj1 K mg d_law_worth_of := ⟨_, _, F10, F10.binds (ps := d_law_worth_of.ps) fun _ _ _ _ _ _ us hl => match us, hl with | [_], _ => rfl, PySem.W.mg_of X G a10⟩
  have F11 : Fun K d_law_mates.name d_law_mates.name d_law_mates.ast _ _ := fun_mk (st := topS 13) l11 c11 k11
  have O11 : Obj1 K mg d_law_mates := ⟨_, _, F11, F11.binds (ps := d_law_mates.ps) fun _ _ _ _ _ _ us hl => match us, hl with | [_], _ => rfl, PySem.W.mg_of X G a11⟩
  have F12 : Fun K d_law_corners.name d_law_corners.name d_law_corners.ast _ _ := fun_mk (st := topS 14) l12 c12 k12
  have O12 : Obj1 K mg d_law_corners := ⟨_, _, F12, F12.binds (ps := d_law_corners.ps) fun _ _ _ _ _ _ us hl => match us, hl with | [_, _], _ => rfl, PySem.W.mg_of X G a12⟩
  have F13 : Fun K d_law_corner_behind.name d_law_corner_behind.name d_law_corner_behind.ast _ _ := fun_mk (st := topS 15) l13 c13 k13
  have O13 : Obj1 K mg d_law_corner_behind := ⟨_, _, F13, F13.binds (ps := d_law_corner_behind.ps) fun _ _ _ _ _ _ us hl => match us, hl with | [_, _, _, _], _ => rfl, PySem.W.mg_of X G a13⟩
  have F14 : Fun K d_law_region.name d_law_region.name d_law_region.ast _ _ := fun_mk (st := topS 16) l14 c14 k14
  have O14 : Obj1 K mg d_law_region := ⟨_, _, F14, F14.binds (ps := d_law_region.ps) fun _ _ _ _ _ _ us hl => match us, hl with | [_, _, _, _], _ => rfl, PySem.W.mg_of X G a14⟩
  have F15 : Fun K d_law_grown.name d_law_grown.name d_law_grown.ast _ _ := fun_mk (st := topS 17) l15 c15 k15
  have O15 : Obj1 K mg d_law_grown := ⟨_, _, F15, F15.binds (ps := d_law_grown.ps) fun _ _ _ _ _ _ us hl => match us, hl with | [_, _, _, _], _ => rfl, PySem.W.mg_of X G a15⟩
  have F16 : Fun K d_law_names.name d_law_names.name d_law_names.ast _ _ := fun_mk (st := topS 18) l16 c16 k16
  have O16 : Obj1 K mg d_law_names := ⟨_, _, F16, F16.binds (ps := d_law_names.ps) fun _ _ _ _ _ _ us hl => match us, hl with | [_, _], _ => rfl, PySem.W.mg_of X G a16⟩
  have F17 : Fun K d_law_begun.name d_law_begun.name d_law_begun.ast _ _ := fun_mk (st := topS 19) l17 c17 k17
  have O17 : Obj1 K mg d_law_begun := ⟨_, _, F17, F17.binds (ps := d_law_begun.ps) fun _ _ _ _ _ _ us hl => match us, hl with | [_, _, _], _ => rfl, PySem.W.mg_of X G a17⟩
  have F18 : Fun K d_law_net_by.name d_law_net_by.name d_law_net_by.ast _ _ := fun_mk (st := topS 20) l18 c18 k18
  have O18 : Obj1 K mg d_law_net_by := ⟨_, _, F18, F18.binds (ps := d_law_net_by.ps) fun _ _ _ _ _ _ us hl => match us, hl with | [_, _, _], _ => rfl, PySem.W.mg_of X G a18⟩
  have F19 : Fun K d_law_copy.name d_law_copy.name d_law_copy.ast _ _ := fun_mk (st := topS 21) l19 c19 k19
  have O19 : Obj1 K mg d_law_copy := ⟨_, _, F19, F19.binds (ps := d_law_copy.ps) fun _ _ _ _ _ _ us hl => match us, hl with | [_], _ => rfl, PySem.W.mg_of X G a19⟩
  have F20 : Fun K d_law_tuples.name d_law_tuples.name d_law_tuples.ast _ _ := fun_mk (st := topS 22) l20 c20 k20
  have O20 : Obj1 K mg d_law_tuples := ⟨_, _, F20, F20.binds (ps := d_law_tuples.ps) fun _ _ _ _ _ _ us hl => match us, hl with | [_, _], _ => rfl, PySem.W.mg_of X G a20⟩
  have F21 : Fun K d_law_right.name d_law_right.name d_law_right.ast _ _ := fun_mk (st := topS 23) l21 c21 k21
  have O21 : Obj1 K mg d_law_right := ⟨_, _, F21, F21.binds (ps := d_law_right.ps) fun _ _ _ _ _ _ us hl => match us, hl with | [_, _], _ => rfl, PySem.W.mg_of X G a21⟩
  have F22 : Fun K d_law.name d_law.name d_law.ast _ _ := fun_mk (st := topS 24) l22 c22 k22
  have O22 : Obj1 K mg d_law := ⟨_, _, F22, F22.binds (ps := d_law.ps) fun _ _ _ _ _ _ us hl => match us, hl with | [_], _ => rfl, PySem.W.mg_of X G a22⟩
  have hT : ∀ d ∈ T, Obj1 K mg d := by
    intro d hd
    simp only [T, List.mem_cons, List.mem_nil_iff, or_false] at hd
    rcases hd with rfl | rfl | rfl | rfl | rfl | rfl | rfl | rfl | rfl | rfl | rfl | rfl | rfl | rfl | rfl | rfl | rfl | rfl | rfl | rfl | rfl | rfl | rfl
    · exact O0
    · exact O1
    · exact O2
    · exact O3
    · exact O4
    · exact O5
    · exact O6
    · exact O7
    · exact O8
    · exact O9
    · exact O10
    · exact O11
    · exact O12
    · exact O13
    · exact O14
    · exact O15
    · exact O16
    · exact O17
    · exact O18
    · exact O19
    · exact O20
    · exact O21
    · exact O22
  have hB : ∀ x ∈ B, mg x = none := by
    intro x hx
    simp only [B, List.mem_cons, List.mem_nil_iff, or_false] at hx
    rcases hx with rfl | rfl | rfl | rfl | rfl | rfl | rfl | rfl | rfl | rfl | rfl
    · exact PySem.W.mg_none_of X G z0
    · exact PySem.W.mg_none_of X G z1
    · exact PySem.W.mg_none_of X G z2
    · exact PySem.W.mg_none_of X G z3
    · exact PySem.W.mg_none_of X G z4
    · exact PySem.W.mg_none_of X G z5
    · exact PySem.W.mg_none_of X G z6
    · exact PySem.W.mg_none_of X G z7
    · exact PySem.W.mg_none_of X G z8
    · exact PySem.W.mg_none_of X G z9
    · exact PySem.W.mg_none_of X G z10
  exact ⟨_, fun s v => .of_eq rfl, fun base _ _ => Rim.law_ok (d := d_law) _ nodupT hT hB chkT (by simp [T]) F22⟩
end K11
namespace K11
open PySem PySem.Spec PyProof.Rows L2 Rim Lp Gn
section
variable {n k : Nat}
/-! ### names -/
theorem word_loop {x0 x1 x3 x4 x7 x8 x9 x10 x11 x12 : Option O} {r : Int} (hr : 0 ≤ r) {m : Nat} (hm : m ≤ 8) :
    ∃ (cs : List Nat) (r' : Int) (y7 : Option O), fo (run T n k) n (.nm 7) b_law_names_1 (rngD 0 m) [x0, x1, some (sO "abcdefghijklmnopqrstuvwxyz0123456789"), x3, x4, some (sO (mk [])), some (iO r), x7, x8, x9, x10, x11, x12] = .ok .nx [x0, x1, some (sO "abcdefghijklmnopqrstuvwxyz0123456789"), x3, x4, some (sO (mk cs)), some (iO r'), y7, x8, x9, x10, x11, x12] ∧ cs.length = m ∧ Sg cs ∧ 0 ≤ r' := by
  obtain ⟨e', g1, cs, r', y7, rfl, g2, g3, g4⟩ := fo_inv (F := run T n k) (n := n) (tg := .nm 7) (b := b_law_names_1) (ds := rngD 0 m) (k := 0) (e := [x0, x1, some (sO "abcdefghijklmnopqrstuvwxyz0123456789"), x3, x4, some (sO (mk [])), some (iO r), x7, x8, x9, x10, x11, x12])
    (fun i e => ∃ (cs : List Nat) (r' : Int) (y7 : Option O), e = [x0, x1, some (sO "abcdefghijklmnopqrstuvwxyz0123456789"), x3, x4, some (sO (mk cs)), some (iO r'), y7, x8, x9, x10, x11, x12] ∧ cs.length = i ∧ Sg cs ∧ 0 ≤ r')
    ⟨[], r, x7, rfl, rfl, fun c hc => (by cases hc), hr⟩ (fun i e d hd hp => by
      obtain ⟨hi, rfl⟩ := rngD_get hd
      rw [Nat.zero_add] at hp ⊢
      obtain ⟨cs, r', y7, rfl, g2, g3, g4⟩ := hp
      have sa := sign_at (i := r' % 36) (by omega) (by omega)
      have ad := o_addS (x := mk cs) (y := mk [ch (r' % 36).toNat]) (by rw [mk_len, mk_len, List.length_singleton]; omega)
      have cd : cdivB 36 = true := by decide
      have e1 : mk (cs ++ [ch (r' % 36).toNat]) = mk cs ++ mk [ch (r' % 36).toNat] := mk_app.symm
      refine ⟨_, [x0, x1, some (sO "abcdefghijklmnopqrstuvwxyz0123456789"), x3, x4, some (sO (mk (cs ++ [ch (r' % 36).toNat]))), some (iO (r' / 36)), some (iO ((0 : Int) + (i : Int))), x8, x9, x10, x11, x12], rfl, .inl ?_, _, _, _, rfl, by rw [List.length_append, List.length_singleton]; omega, fun c hc => ?_, by omega⟩
      · rw [e1]
        generalize mk cs = nA at *
        generalize mk [ch (r' % 36).toNat] = nB at *
        simp [b_law_names_1, pl, qt, sa, ad, cd]
      · rcases List.mem_append.mp hc with z | z
        · exact g3 c z
        · rw [List.mem_singleton.mp z]
          exact ⟨_, by omega, rfl⟩)
  rw [Nat.zero_add, rngD_len] at g2
  exact ⟨cs, r', y7, g1, g2, g3, g4⟩
theorem cutS {cs : List Nat} {a : Nat} (h : a ≤ cs.length) (hl : cs.length ≤ 100) : sliceO (sO (mk cs)) none (some (a : Int)) = some (sO (mk (cs.take a))) ∧ sliceO (sO (mk cs)) (some (a : Int)) none = some (sO (mk (cs.drop a))) := by
  have r : strRoom (mk cs).length = true := Nat.ble_eq_true_of_le (room_of (by rw [mk_len]; omega))
  have e : (mk cs).cps.toList = cs := rfl
  constructor
  · show (if strRoom (mk cs).length then some (O.fz (.str ⟨(cutD (mk cs).cps.toList none (some (a : Int))).toArray⟩)) else none) = _
    rw [if_pos r, e, cutL_hi rfl h]
    rfl
  · show (if strRoom (mk cs).length then some (O.fz (.str ⟨(cutD (mk cs).cps.toList (some (a : Int)) none).toArray⟩)) else none) = _
    rw [if_pos r, e, cutL_lo rfl h]
    rfl
theorem names_go {big : Int} (h0 : 0 ≤ big) {m : Nat} (hm : m ≤ 16) : ∃ (Ns : List Str) (ps : Rim.Env), NmOk m Ns ∧ run T n (k + 1) "_law_names" [iO big, iO m] = .ok (.lst (Ns.map sO)) ps := by
  rw [show ("_law_names" : Str) = d_law_names.name from rfl, run_b nodupT (by simp [T]) rfl]
  have hs : sizeLine = 16777216 := by decide
  have kk : rngOk (1 + big % 8) = true := Nat.ble_eq_true_of_le (by omega)
  have km : rngOk (m : Int) = true := Nat.ble_eq_true_of_le (by omega)
  have hsz : 0 < 1 + big % 8 := by omega
  have sp1 := Int.emod_nonneg (big / 8) (show 1 + big % 8 ≠ 0 by omega)
  have sp2 := Int.emod_lt_of_pos (big / 8) hsz
  obtain ⟨sz, hsz'⟩ : ∃ sz : Nat, 1 + big % 8 = sz := ⟨(1 + big % 8).toNat, by omega⟩
  obtain ⟨spot, hspot⟩ : ∃ sp : Nat, big / 8 % (1 + big % 8) = sp := ⟨(big / 8 % (1 + big % 8)).toNat, by omega⟩
  obtain ⟨cs, r', y7, g1, l1, sg, r0⟩ := word_loop (n := n) (k := k) (x0 := some (iO big)) (x1 := some (iO m)) (x3 := some (iO (1 + big % 8))) (x4 := some (iO (big / 8 % (1 + big % 8)))) (x7 := none) (x8 := none) (x9 := none) (x10 := none) (x11 := none) (x12 := none) (r := big / 64) (by omega) (m := sz) (by omega)
  obtain ⟨f, hf⟩ : ∃ f : Nat, r' % 36 = f := ⟨(r' % 36).toNat, by omega⟩
  have f36 : f < 36 := by omega
  have lsp : spot < cs.length := by omega
  obtain ⟨c1, _⟩ := cutS (cs := cs) (a := spot) (by omega) (by omega)
  obtain ⟨_, c2⟩ := cutS (cs := cs) (a := spot + 1) (by omega) (by omega)
  have cA : co (run T n k) (.nm 7) [7] .no (.bin .add (.bin .add (.var 9) (.ix (.var 2) (.bin .mod (.bin .add (.var 8) (.bin .mul (.int 7) (.var 7))) (.int 36)))) (.var 10)) (rngD 0 m) [some (iO big), some (iO m), some (sO "abcdefghijklmnopqrstuvwxyz0123456789"), some (iO (1 + big % 8)), some (iO (big / 8 % (1 + big % 8))), some (sO (mk cs)), some (iO r'), none, some (iO f), some (sO (mk (cs.take spot))), some (sO (mk (cs.drop (spot + 1)))), none, none]
      = .ok (((List.range m).map fun k => mk (nameA cs spot f k)).map sO) [some (iO big), some (iO m), some (sO "abcdefghijklmnopqrstuvwxyz0123456789"), some (iO (1 + big % 8)), some (iO (big / 8 % (1 + big % 8))), some (sO (mk cs)), some (iO r'), none, some (iO f), some (sO (mk (cs.take spot))), some (sO (mk (cs.drop (spot + 1)))), none, none] := by
    rw [rngD_nat]
    have z := co_mapA (F := run T n k) (enc := natD) (g := fun i : Nat => sO (mk (nameA cs spot f i))) (v := 7) (elt := .bin .add (.bin .add (.var 9) (.ix (.var 2) (.bin .mod (.bin .add (.var 8) (.bin .mul (.int 7) (.var 7))) (.int 36)))) (.var 10)) (e := [some (iO big), some (iO m), some (sO "abcdefghijklmnopqrstuvwxyz0123456789"), some (iO (1 + big % 8)), some (iO (big / 8 % (1 + big % 8))), some (sO (mk cs)), some (iO r'), none, some (iO f), some (sO (mk (cs.take spot))), some (sO (mk (cs.drop (spot + 1)))), none, none]) rfl (xs := List.range m) (fun i hi => by
      have hi' := List.mem_range.mp hi
      have cm : cmulB 7 (i : Int) = true := cmulB_of (a := 3) (b := 5) (by decide) (by omega) (by decide)
      have sa := sign_at (i := ((f : Int) + 7 * (i : Int)) % 36) (by omega) (by omega)
      have et : (((f : Int) + 7 * (i : Int)) % 36).toNat = (f + 7 * i) % 36 := by omega
      rw [et] at sa
      have a1 := o_addS (x := mk (cs.take spot)) (y := mk [ch ((f + 7 * i) % 36)]) (by rw [mk_len, mk_len, List.length_take, List.length_singleton]; omega)
      have a2 := o_addS (x := mk (cs.take spot) ++ mk [ch ((f + 7 * i) % 36)]) (y := mk (cs.drop (spot + 1))) (by rw [mk_app, mk_len, mk_len, List.length_append, List.length_take, List.length_singleton, List.length_drop]; omega)
      have e1 : mk (nameA cs spot f i) = mk (cs.take spot) ++ mk [ch ((f + 7 * i) % 36)] ++ mk (cs.drop (spot + 1)) := by
        rw [mk_app, mk_app, List.append_assoc]
        rfl
      rw [e1]
      generalize mk (cs.take spot) = nA at *
      generalize mk [ch ((f + 7 * i) % 36)] = nB at *
      generalize mk (cs.drop (spot + 1)) = nC at *
      generalize mk cs = nD at *
      simp [pl, qt, natD, cm, sa, a1, a2])
    rw [z, List.map_map]
    rfl
  obtain ⟨e2, gB, y7', y12, rfl⟩ := fo_inv (F := run T n k) (n := n) (tg := .nm 7) (b := b_law_names_2) (ds := rngD 0 m) (k := 0) (e := [some (iO big), some (iO m), some (sO "abcdefghijklmnopqrstuvwxyz0123456789"), some (iO (1 + big % 8)), some (iO (big / 8 % (1 + big % 8))), some (sO (mk cs)), some (iO r'), none, some (iO f), some (sO (mk (cs.take spot))), some (sO (mk (cs.drop (spot + 1)))), some (.lst []), none])
    (fun i e => ∃ y7 y12, e = [some (iO big), some (iO m), some (sO "abcdefghijklmnopqrstuvwxyz0123456789"), some (iO (1 + big % 8)), some (iO (big / 8 % (1 + big % 8))), some (sO (mk cs)), some (iO r'), y7, some (iO f), some (sO (mk (cs.take spot))), some (sO (mk (cs.drop (spot + 1)))), some (.lst (((List.range i).map fun k => mk (nameB f k)).map sO)), y12])
    ⟨none, none, rfl⟩ (fun i e d hd hp => by
      obtain ⟨hi, rfl⟩ := rngD_get hd
      rw [Nat.zero_add] at hp ⊢
      obtain ⟨y7, y12, rfl⟩ := hp
      rw [Int.zero_add]
      have e1 : ((List.range (i + 1)).map fun k => mk (nameB f k)).map sO = ((List.range i).map fun k => mk (nameB f k)).map sO ++ [sO (mk (nameB f i))] := by
        rw [List.range_succ, List.map_append, List.map_append]
        rfl
      have hl : (((List.range i).map fun k => mk (nameB f k)).map sO).length < 16777216 := by rw [List.length_map, List.length_map, List.length_range]; omega
      rw [e1]
      have sf := sign_at (i := (f : Int)) (by omega) (by omega)
      have sm := sign_at (i := ((f : Int) + 1 + (i : Int) / 7) % 36) (by omega) (by omega)
      have et : (((f : Int) + 1 + (i : Int) / 7) % 36).toNat = (f + 1 + i / 7) % 36 := by omega
      rw [et] at sm
      rw [Int.toNat_natCast] at sf
      have mn := mul_name (c := ch f) (j := 1 + (i : Int) % 7) (by omega) (by omega)
      have et2 : (1 + (i : Int) % 7).toNat = 1 + i % 7 := by omega
      rw [et2] at mn
      have cd7 : cdivB 7 = true := by decide
      by_cases q : 6 < i
      · have q' : (6 : Int) < (i : Int) := by omega
        have m1 : binO .mul (sO (mk [ch ((f + 1 + i / 7) % 36)])) (iO 1) = some (sO (mk [ch ((f + 1 + i / 7) % 36)])) := rfl
        have ad := o_addS (x := mk (List.replicate (1 + i % 7) (ch f))) (y := mk [ch ((f + 1 + i / 7) % 36)]) (by rw [mk_len, mk_len, List.length_replicate, List.length_singleton]; omega)
        have e2 : mk (nameB f i) = mk (List.replicate (1 + i % 7) (ch f)) ++ mk [ch ((f + 1 + i / 7) % 36)] := by
          rw [mk_app]
          unfold nameB
          rw [if_pos q]
        rw [e2]
        generalize ((List.range i).map fun k => mk (nameB f k)).map sO = done at *
        generalize mk (List.replicate (1 + i % 7) (ch f)) = nA at *
        generalize mk [ch ((f + 1 + i / 7) % 36)] = nB at *
        generalize mk [ch f] = nC at *
        refine ⟨_, _, rfl, .inl ?_, some (iO i), some (sO nB), rfl⟩
        simp [b_law_names_2, pl, qt, qts, cd7, sf, sm, mn, q, q', m1, ad, strRoom, hs, hl, bl1O]
      · have q' : ¬ (6 : Int) < (i : Int) := by omega
        have m1 : binO .mul (sO (mk [ch ((f + 1 + i / 7) % 36)])) (iO 0) = some (sO (mk [])) := rfl
        have ad := o_addS (x := mk (List.replicate (1 + i % 7) (ch f))) (y := mk []) (by rw [mk_len, mk_len, List.length_replicate, List.length_nil]; omega)
        have e2 : mk (nameB f i) = mk (List.replicate (1 + i % 7) (ch f)) ++ mk [] := by
          rw [mk_app]
          unfold nameB
          rw [if_neg q]
        rw [e2]
        generalize ((List.range i).map fun k => mk (nameB f k)).map sO = done at *
        generalize mk (List.replicate (1 + i % 7) (ch f)) = nA at *
        generalize mk [ch ((f + 1 + i / 7) % 36)] = nB at *
        generalize mk [] = nE at *
        generalize mk [ch f] = nC at *
        refine ⟨_, _, rfl, .inl ?_, some (iO i), some (sO nB), rfl⟩
        simp [b_law_names_2, pl, qt, qts, cd7, sf, sm, mn, q, q', m1, ad, strRoom, hs, hl, bl1O])
  rw [Nat.zero_add, rngD_len] at gB
  have nA := namesA (cs := cs) (spot := spot) (first := f) (m := m) lsp (by omega) sg (by omega)
  have nB := namesB (first := f) (m := m) f36 hm
  have lA : (((List.range m).map fun k => mk (nameA cs spot f k)).map sO).length ≤ 16777216 := by rw [List.length_map, List.length_map, List.length_range]; omega
  generalize (List.range m).map (fun k => mk (nameA cs spot f k)) = LA at *
  generalize (List.range m).map (fun k => mk (nameB f k)) = LB at *
  change fo _ _ _ _ _ [_, _, _, _, _, some (.fz (.str "")), _, _, _, _, _, _, _] = _ at g1
  have szi : (1 + big % 8).toNat = sz := by omega
  have cd8 : cdivB 8 = true := by decide
  have cd64 : cdivB 64 = true := by decide
  have cd36 : cdivB 36 = true := by decide
  rw [hspot] at g1 cA gB
  have hc2 : (spot : Int) + 1 = ((spot + 1 : Nat) : Int) := by omega
  rw [← hc2] at c2
  generalize mk cs = nD at *
  generalize mk (cs.take spot) = nH at *
  generalize mk (cs.drop (spot + 1)) = nT at *
  have tp2 : ∀ a b : Str, mkTup [sO a, sO b] = .fz (.tuple [.str a, .str b]) := fun _ _ => rfl
  by_cases q : r' / 36 % 3 = 0
  · refine ⟨LB, [some (iO big), some (iO m)], nB, ?_⟩
    generalize LA.map sO = oA at *
    generalize LB.map sO = oB at *
    generalize hq : runB _ _ _ _ _ _ = q'
    simp [runB, d_law_names, b_law_names, pl, qt, qtO, cd8, cd64, cd36, kk, km, szi, hspot, g1, hf, c1, c2, tp2, cA, lA, gB, q, hsz, strRoom, hs, asSs, asS, tgS, wipeE, setTgO, tupOf] at hq
    exact hq.symm
  · refine ⟨LA, [some (iO big), some (iO m)], nA, ?_⟩
    generalize LA.map sO = oA at *
    generalize LB.map sO = oB at *
    generalize hq : runB _ _ _ _ _ _ = q'
    simp [runB, d_law_names, b_law_names, pl, qt, qtO, cd8, cd64, cd36, kk, km, szi, hspot, g1, hf, c1, c2, tp2, cA, lA, q, hsz, strRoom, hs, asSs, asS, tgS, wipeE, setTgO, tupOf] at hq
    exact hq.symm
/-! ### worths -/
theorem r_worth {big : Int} (hn : 5000 ≤ n) : ∃ (q : Fr) (r : Int) (ps : Rim.Env), WtOk q ∧ run T n (k + 2) "_law_worth_of" [iO big] = .ok (.fz (.tuple [frD q, .int r])) ps := by
  rw [show ("_law_worth_of" : Str) = d_law_worth_of.name from rfl, run_b nodupT (by simp [T]) rfl]
  have cd : ∀ m : Int, (m = 3 ∨ m = 12 ∨ m = 48 ∨ m = 48000 ∨ m = 5 ∨ m = 20 ∨ m = 80 ∨ m = 80000) → cdivB m = true := fun m hm => by
    rcases hm with rfl | rfl | rfl | rfl | rfl | rfl | rfl | rfl <;> decide
  have c3 := cd 3 (by simp)
  have c12 := cd 12 (by simp)
  have c48 := cd 48 (by simp)
  have c48k := cd 48000 (by simp)
  have c5 := cd 5 (by simp)
  have c20 := cd 20 (by simp)
  have c80 := cd 80 (by simp)
  have c80k := cd 80000 (by simp)
  obtain ⟨b, hb, b1, b2⟩ : ∃ b : Int, (if big / 3 % 16 = 2 then 1 + big / 48 % 1000 else if big / 3 % 4 = 1 then 1 + big / 12 % 12 else 1 + big % 3) = b ∧ 1 ≤ b ∧ b ≤ 1000 := ⟨_, rfl, by split; omega; split <;> omega, by split; omega; split <;> omega⟩
  obtain ⟨big2, hbig⟩ : ∃ b2 : Int, big / 48000 = b2 := ⟨_, rfl⟩
  obtain ⟨t, ht, t1, t2⟩ : ∃ t : Int, (if big2 / 5 % 16 = 2 then 1 + big2 / 80 % 1000 else if big2 / 5 % 4 = 1 then 1 + big2 / 20 % 12 else 1 + big2 % 5) = t ∧ 1 ≤ t ∧ t ≤ 1000 := ⟨_, rfl, by split; omega; split <;> omega, by split; omega; split <;> omega⟩
  have l := r_low (n := n) (k := k) (a := t) (b := b) (by omega) (lt_pow (a := 10) (by omega) (by decide)) (by omega)
  rw [frO_nm] at l
  generalize hq : runB _ _ _ _ _ _ = q
  have wt : WtOk (nm t b) := ⟨t, b, t1, t2, b1, b2, rfl⟩
  generalize nm t b = w at *
  by_cases p1 : big / 3 % 16 = 2
  · have p2 : ¬ big / 3 % 4 = 1 := by omega
    rw [if_pos p1] at hb
    by_cases s1 : big2 / 5 % 16 = 2
    · have s2 : ¬ big2 / 5 % 4 = 1 := by omega
      rw [if_pos s1] at ht
      simp [runB, d_law_worth_of, b_law_worth_of, pl, qt, qts, hasBor, backAr, Ar.o, c3, c12, c48, c48k, c5, c20, c80, c80k, p1, p2, hb, hbig, s1, s2, ht, l, strRoom, sizeLine, asSs, asS, tgS, wipeE] at hq
      exact ⟨w, _, _, wt, hq.symm⟩
    · rw [if_neg s1] at ht
      by_cases s2 : big2 / 5 % 4 = 1
      · rw [if_pos s2] at ht
        simp [runB, d_law_worth_of, b_law_worth_of, pl, qt, qts, hasBor, backAr, Ar.o, c3, c12, c48, c48k, c5, c20, c80, c80k, p1, p2, hb, hbig, s1, s2, ht, l, strRoom, sizeLine, asSs, asS, tgS, wipeE] at hq
        exact ⟨w, _, _, wt, hq.symm⟩
      · rw [if_neg s2] at ht
        simp [runB, d_law_worth_of, b_law_worth_of, pl, qt, qts, hasBor, backAr, Ar.o, c3, c12, c48, c48k, c5, c20, c80, c80k, p1, p2, hb, hbig, s1, s2, ht, l, strRoom, sizeLine, asSs, asS, tgS, wipeE] at hq
        exact ⟨w, _, _, wt, hq.symm⟩
  · rw [if_neg p1] at hb
    by_cases p2 : big / 3 % 4 = 1
    · rw [if_pos p2] at hb
      by_cases s1 : big2 / 5 % 16 = 2
      · have s2 : ¬ big2 / 5 % 4 = 1 := by omega
        rw [if_pos s1] at ht
        simp [runB, d_law_worth_of, b_law_worth_of, pl, qt, qts, hasBor, backAr, Ar.o, c3, c12, c48, c48k, c5, c20, c80, c80k, p1, p2, hb, hbig, s1, s2, ht, l, strRoom, sizeLine, asSs, asS, tgS, wipeE] at hq
        exact ⟨w, _, _, wt, hq.symm⟩
      · rw [if_neg s1] at ht
        by_cases s2 : big2 / 5 % 4 = 1
        · rw [if_pos s2] at ht
          simp [runB, d_law_worth_of, b_law_worth_of, pl, qt, qts, hasBor, backAr, Ar.o, c3, c12, c48, c48k, c5, c20, c80, c80k, p1, p2, hb, hbig, s1, s2, ht, l, strRoom, sizeLine, asSs, asS, tgS, wipeE] at hq
          exact ⟨w, _, _, wt, hq.symm⟩
        · rw [if_neg s2] at ht
          simp [runB, d_law_worth_of, b_law_worth_of, pl, qt, qts, hasBor, backAr, Ar.o, c3, c12, c48, c48k, c5, c20, c80, c80k, p1, p2, hb, hbig, s1, s2, ht, l, strRoom, sizeLine, asSs, asS, tgS, wipeE] at hq
          exact ⟨w, _, _, wt, hq.symm⟩
    · rw [if_neg p2] at hb
      by_cases s1 : big2 / 5 % 16 = 2
      · have s2 : ¬ big2 / 5 % 4 = 1 := by omega
        rw [if_pos s1] at ht
        simp [runB, d_law_worth_of, b_law_worth_of, pl, qt, qts, hasBor, backAr, Ar.o, c3, c12, c48, c48k, c5, c20, c80, c80k, p1, p2, hb, hbig, s1, s2, ht, l, strRoom, sizeLine, asSs, asS, tgS, wipeE] at hq
        exact ⟨w, _, _, wt, hq.symm⟩
      · rw [if_neg s1] at ht
        by_cases s2 : big2 / 5 % 4 = 1
        · rw [if_pos s2] at ht
          simp [runB, d_law_worth_of, b_law_worth_of, pl, qt, qts, hasBor, backAr, Ar.o, c3, c12, c48, c48k, c5, c20, c80, c80k, p1, p2, hb, hbig, s1, s2, ht, l, strRoom, sizeLine, asSs, asS, tgS, wipeE] at hq
          exact ⟨w, _, _, wt, hq.symm⟩
        · rw [if_neg s2] at ht
          simp [runB, d_law_worth_of, b_law_worth_of, pl, qt, qts, hasBor, backAr, Ar.o, c3, c12, c48, c48k, c5, c20, c80, c80k, p1, p2, hb, hbig, s1, s2, ht, l, strRoom, sizeLine, asSs, asS, tgS, wipeE] at hq
          exact ⟨w, _, _, wt, hq.symm⟩
end
end K11
namespace K11
open PySem PySem.Spec PyProof.Rows L2 Rim Lp Gn
section
variable {n k : Nat}
/-! ### turns as data -/
def eD (c : Nat × Nat) : PyData := .tuple [.int c.1, .int c.2]
def eO (c : Nat × Nat) : O := .fz (eD c)
def eK (c : Nat × Nat) : List Key := [.inl (c.1 : Int), .inl (c.2 : Int)]
def rwN (r : List Nat) : PyData := .list (r.map natD)
def tnD (L : TL) : PyData := .list (L.map rwN)
def mO (m : MD) : List (List Key × O) := m.map fun e => (eK e.1, eO e.2)
def fO (f : List (Nat × (Nat × Nat))) : List (Key × O) := f.map fun e => (Sum.inl (e.1 : Int), eO e.2)
def mD (m : MD) : PyData := .dict (ert (mO m))
theorem eK_inj : ∀ a b : Nat × Nat, eK a = eK b → a = b := fun a b h => by
  unfold eK at h
  injection h with h1 h2
  injection h2 with h2 _
  have := Sum.inl.inj h1
  have := Sum.inl.inj h2
  exact Prod.ext (by omega) (by omega)
theorem kI_inj : ∀ a b : Nat, (Sum.inl (a : Int) : Key) = Sum.inl (b : Int) → a = b := fun a b h => by
  have := Sum.inl.inj h
  omega
theorem get_m {m : MD} {e : Nat × Nat} : get1 (mO m) (eK e) = (get1 m e).map eO := get1_map (f := eK) (g := eO) eK_inj
theorem put_m {m : MD} {e e' : Nat × Nat} : put1 (mO m) (eK e) (eO e') = mO (put1 m e e') := put1_map (f := eK) (g := eO) eK_inj
theorem get_f {f : List (Nat × (Nat × Nat))} {w : Nat} : get1 (fO f) (Sum.inl (w : Int)) = (get1 f w).map eO := get1_map (f := fun a : Nat => (Sum.inl (a : Int) : Key)) (g := eO) kI_inj
theorem put_f {f : List (Nat × (Nat × Nat))} {w : Nat} {e : Nat × Nat} : put1 (fO f) (Sum.inl (w : Int)) (eO e) = fO (put1 f w e) := put1_map (f := fun a : Nat => (Sum.inl (a : Int) : Key)) (g := eO) kI_inj
theorem keyT_e {e : Nat × Nat} : keyTO (eD e) = some (eK e) := rfl
theorem fgetT_m : ∀ {m : MD} {e : Nat × Nat}, fgetT (ert (mO m)) (eK e) = (get1 m e).map eD
  | [], _ => rfl
  | x :: m, e => by
    show (if keyTO (keyTD (eK x.1)) = some (eK e) then some (er (eO x.2)) else fgetT (ert (mO m)) (eK e)) = _
    rw [keyTO_keyTD]
    unfold get1
    by_cases h : x.1 = e
    · rw [if_pos (by rw [h]), if_pos h]
      rfl
    · rw [if_neg fun z => h (eK_inj _ _ (Option.some.inj z)), if_neg h]
      exact fgetT_m
theorem item_m {m : MD} {e e' : Nat × Nat} (h : get1 m e = some e') : itemO (.fz (mD m)) (eD e) = some (eO e') := by
  show (match seqO (.fz (mD m)) (eD e) with | some o => some o | none => dictO (.fz (mD m)) (eD e)) = _
  have s : seqO (.fz (mD m)) (eD e) = none := rfl
  have d : dictO (.fz (mD m)) (eD e) = (fgetT (ert (mO m)) (eK e)).map .fz := rfl
  rw [s, d, fgetT_m, h]
  rfl
theorem item_f {f : List (Nat × (Nat × Nat))} {w : Nat} {e : Nat × Nat} (h : get1 f w = some e) : itemO (.dk (fO f)) (.int (w : Int)) = some (eO e) := by
  show (match seqO (.dk (fO f)) (.int (w : Int)) with | some o => some o | none => dictO (.dk (fO f)) (.int (w : Int))) = _
  have s : seqO (.dk (fO f)) (.int (w : Int)) = none := rfl
  have d : dictO (.dk (fO f)) (.int (w : Int)) = get1 (fO f) (Sum.inl (w : Int)) := rfl
  rw [s, d, get_f, h]
  rfl
theorem in_f {f : List (Nat × (Nat × Nat))} {w : Nat} : cmpO .isin (iO (w : Int)) (.dk (fO f)) = some (get1 f w).isSome := by
  have e : cmpO .isin (iO (w : Int)) (.dk (fO f)) = some (get1 (fO f) (Sum.inl (w : Int))).isSome := by
    unfold cmpO
    rw [er_fz, show er (.dk (fO f)) = .dict (erk (fO f)) by rw [er]]
    rfl
  rw [e, get_f, Option.isSome_map]
/-! ### mates -/
theorem mate_turn {L : TL} {f : List (Nat × (Nat × Nat))} {m : MD} {p i w : Nat} {r : List Nat} {x5 : Option O} (h1 : L[p]? = some r) (h2 : r[i]? = some w) (lf_ : f.length < 1000) (lm : m.length < 1000) :
    exs (run T n k) n b_law_mates_1 [some (.fz (tnD L)), some (.dk (fO f)), some (.dt (mO m)), some (iO p), some (iO i), x5] = .ok .nx [some (.fz (tnD L)), some (.dk (fO (step (f, m) ((p, i), w)).1)), some (.dt (mO (step (f, m) ((p, i), w)).2)), some (iO p), some (iO i), some (iO w)] := by
  have hs : sizeLine = 16777216 := by decide
  have i1 : itemO (.fz (tnD L)) (.int (p : Int)) = some (.fz (rwN r)) := by
    have a : atI (L.map rwN) (p : Int) = some (rwN r) := by
      rw [atI_pos (by omega), Int.toNat_natCast, List.getElem?_map, h1]
      rfl
    show (match (atI (L.map rwN) (p : Int)).map O.fz with | some o => some o | none => _) = _
    rw [a]
    rfl
  have i2 : itemO (.fz (rwN r)) (.int (i : Int)) = some (iO w) := by
    have a : atI (r.map natD) (i : Int) = some (natD w) := by
      rw [atI_pos (by omega), Int.toNat_natCast, List.getElem?_map, h2]
      rfl
    show (match (atI (r.map natD) (i : Int)).map O.fz with | some o => some o | none => _) = _
    rw [a]
    rfl
  have inf := in_f (f := f) (w := w)
  have mt : mkTup [iO p, iO i] = eO (p, i) := rfl
  have t1 : ex (run T n k) n (.set 5 (.ix (.ix (.var 0) (.var 3)) (.var 4))) [some (.fz (tnD L)), some (.dk (fO f)), some (.dt (mO m)), some (iO p), some (iO i), x5] = .ok .nx [some (.fz (tnD L)), some (.dk (fO f)), some (.dt (mO m)), some (iO p), some (iO i), some (iO w)] := by
    generalize tnD L = tn at *
    generalize rwN r = rr at *
    generalize fO f = fo_ at *
    generalize mO m = mo at *
    simp [pl, qt, i1, i2]
  rw [b_law_mates_1, exs_cons, t1, thn2_nx]
  have tup : ∀ x : Option O, ev (run T n k) false (.tup (.cons (.var 3) (.cons (.var 4) .nil))) [some (.fz (tnD L)), some (.dk (fO f)), some (.dt (mO m)), some (iO p), some (iO i), some (iO w)] = .ok (eO (p, i)) [some (.fz (tnD L)), some (.dk (fO f)), some (.dt (mO m)), some (iO p), some (iO i), some (iO w)] := fun _ => by
    generalize tnD L = tn at *
    generalize fO f = fo_ at *
    generalize mO m = mo at *
    simp [mt, strRoom, hs]
    rfl
  cases hf : get1 f w with
  | some e0 =>
    have st : step (f, m) ((p, i), w) = (f, put1 (put1 m (p, i) e0) e0 (p, i)) := by
      unfold Gn.step
      simp only [hf]
    rw [st]
    rw [hf] at inf
    have it := item_f hf
    have ixv : ∀ mo : List (List Key × O), ev (run T n k) false (.ix (.var 1) (.var 5)) [some (.fz (tnD L)), some (.dk (fO f)), some (.dt mo), some (iO p), some (iO i), some (iO w)] = .ok (eO e0) [some (.fz (tnD L)), some (.dk (fO f)), some (.dt mo), some (iO p), some (iO i), some (iO w)] := fun mo => by
      generalize tnD L = tn at *
      have z : isFz (eO e0) = true := rfl
      generalize fO f = fo_ at *
      simp [pl, qt, it, z]
    have p1 := put_dt (n := n) (i := 2) (kE := .tup (.cons (.var 3) (.cons (.var 4) .nil))) (a := .ix (.var 1) (.var 5)) (d := eD (p, i)) (kk := eK (p, i)) (ixv (mO m)) rfl (tup none) rfl keyT_e (by unfold mO; rw [List.length_map, hs]; omega)
    have tup2 : ev (run T n k) false (.tup (.cons (.var 3) (.cons (.var 4) .nil))) [some (.fz (tnD L)), some (.dk (fO f)), some (.dt (mO (put1 m (p, i) e0))), some (iO p), some (iO i), some (iO w)] = .ok (eO (p, i)) [some (.fz (tnD L)), some (.dk (fO f)), some (.dt (mO (put1 m (p, i) e0))), some (iO p), some (iO i), some (iO w)] := by
      generalize tnD L = tn at *
      generalize fO f = fo_ at *
      generalize mO (put1 m (p, i) e0) = mo at *
      simp [mt, strRoom, hs]
      rfl
    have lp := put1_len (k := (p, i)) (v := e0) (L := m)
    have p2 := put_dt (n := n) (i := 2) (kE := .ix (.var 1) (.var 5)) (a := .tup (.cons (.var 3) (.cons (.var 4) .nil))) (d := eD e0) (kk := eK e0) tup2 rfl (ixv (mO (put1 m (p, i) e0))) rfl keyT_e (by unfold mO; rw [List.length_map, hs]; omega)
    rw [put_m] at p1 p2
    change ex (run T n k) n (.put (.nm 2) (.tup (.cons (.var 3) (.cons (.var 4) .nil))) (.ix (.var 1) (.var 5))) _ = .ok .nx [some (.fz (tnD L)), some (.dk (fO f)), some (.dt (mO (put1 m (p, i) e0))), some (iO p), some (iO i), some (iO w)] at p1
    change ex (run T n k) n (.put (.nm 2) (.ix (.var 1) (.var 5)) (.tup (.cons (.var 3) (.cons (.var 4) .nil)))) _ = .ok .nx [some (.fz (tnD L)), some (.dk (fO f)), some (.dt (mO (put1 (put1 m (p, i) e0) e0 (p, i)))), some (iO p), some (iO i), some (iO w)] at p2
    have cnd : ex (run T n k) n (.ite (.cmp .isin (.var 5) (.var 1)) (.cons (.put (.nm 2) (.tup (.cons (.var 3) (.cons (.var 4) .nil))) (.ix (.var 1) (.var 5))) (.cons (.put (.nm 2) (.ix (.var 1) (.var 5)) (.tup (.cons (.var 3) (.cons (.var 4) .nil)))) .nil)) (.cons (.put (.nm 1) (.var 5) (.tup (.cons (.var 3) (.cons (.var 4) .nil)))) .nil)) [some (.fz (tnD L)), some (.dk (fO f)), some (.dt (mO m)), some (iO p), some (iO i), some (iO w)]
        = exs (run T n k) n (.cons (.put (.nm 2) (.tup (.cons (.var 3) (.cons (.var 4) .nil))) (.ix (.var 1) (.var 5))) (.cons (.put (.nm 2) (.ix (.var 1) (.var 5)) (.tup (.cons (.var 3) (.cons (.var 4) .nil)))) .nil)) [some (.fz (tnD L)), some (.dk (fO f)), some (.dt (mO m)), some (iO p), some (iO i), some (iO w)] := by
      rw [ex_ite]
      generalize tnD L = tn at *
      generalize fO f = fo_ at *
      generalize hmo : mO m = mo at *
      simp [pl, qt, inf, -ex_put, -exs_cons]
    rw [exs_cons, cnd, exs_cons, p1, thn2_nx, exs_cons, p2, thn2_nx, exs_nil, thn2_nx, exs_nil]
  | none =>
    have st : step (f, m) ((p, i), w) = (put1 f w (p, i), m) := by
      unfold Gn.step
      simp only [hf]
    rw [st]
    rw [hf] at inf
    have p1 := put_dk (n := n) (i := 1) (kE := .var 5) (a := .tup (.cons (.var 3) (.cons (.var 4) .nil))) (d := .int (w : Int)) (kk := Sum.inl (w : Int)) (kvs := fO f) (tup none) rfl (by simp) rfl rfl (by unfold fO; rw [List.length_map, hs]; omega)
    rw [put_f] at p1
    change ex (run T n k) n (.put (.nm 1) (.var 5) (.tup (.cons (.var 3) (.cons (.var 4) .nil)))) _ = .ok .nx [some (.fz (tnD L)), some (.dk (fO (put1 f w (p, i)))), some (.dt (mO m)), some (iO p), some (iO i), some (iO w)] at p1
    have cnd : ex (run T n k) n (.ite (.cmp .isin (.var 5) (.var 1)) (.cons (.put (.nm 2) (.tup (.cons (.var 3) (.cons (.var 4) .nil))) (.ix (.var 1) (.var 5))) (.cons (.put (.nm 2) (.ix (.var 1) (.var 5)) (.tup (.cons (.var 3) (.cons (.var 4) .nil)))) .nil)) (.cons (.put (.nm 1) (.var 5) (.tup (.cons (.var 3) (.cons (.var 4) .nil)))) .nil)) [some (.fz (tnD L)), some (.dk (fO f)), some (.dt (mO m)), some (iO p), some (iO i), some (iO w)]
        = exs (run T n k) n (.cons (.put (.nm 1) (.var 5) (.tup (.cons (.var 3) (.cons (.var 4) .nil)))) .nil) [some (.fz (tnD L)), some (.dk (fO f)), some (.dt (mO m)), some (iO p), some (iO i), some (iO w)] := by
      rw [ex_ite]
      generalize tnD L = tn at *
      generalize hfo : fO f = fo_ at *
      generalize hmo : mO m = mo at *
      simp [pl, qt, inf, -ex_put, -exs_cons]
    rw [exs_cons, cnd, exs_cons, p1, thn2_nx, exs_nil, thn2_nx, exs_nil]
end
end K11
namespace K11
open PySem PySem.Spec PyProof.Rows L2 Rim Lp Gn
section
variable {n k : Nat}
theorem len_row {r : List Nat} (hl : r.length ≤ 1000) : bl1O .len (.fz (rwN r)) = some (iO r.length) := by
  show some (O.fz (.int (((r.map natD).length : Nat) : Int))) = _
  rw [List.length_map]
theorem len_tn {L : TL} : bl1O .len (.fz (tnD L)) = some (iO L.length) := by
  show some (O.fz (.int (((L.map rwN).length : Nat) : Int))) = _
  rw [List.length_map]
theorem item_tn {L : TL} {p : Nat} {r : List Nat} (h1 : L[p]? = some r) : itemO (.fz (tnD L)) (.int (p : Int)) = some (.fz (rwN r)) := by
  have a : atI (L.map rwN) (p : Int) = some (rwN r) := by
    rw [atI_pos (by omega), Int.toNat_natCast, List.getElem?_map, h1]
    rfl
  show (match (atI (L.map rwN) (p : Int)).map O.fz with | some o => some o | none => _) = _
  rw [a]
  rfl
theorem r_mates {P w : Nat} {L : TL} (tv : Tv P w L) (hw : w ≤ 15) : ∃ (m : MD) (ps : Rim.Env), Mates (numb L) m ∧ run T n (k + 1) "_law_mates" [.fz (tnD L)] = .ok (.dt (mO m)) ps := by
  rw [show ("_law_mates" : Str) = d_law_mates.name from rfl, run_b nodupT (by simp [T]) rfl]
  have few := tv.few hw
  have es := tv.ends
  have hL : L.length ≤ 16 := by have := tv.hl; have := tv.p6; omega
  have km : rngOk (L.length : Int) = true := Nat.ble_eq_true_of_le (by omega)
  obtain ⟨e1, g1, f, m, x3, x4, x5, rfl, sc, _, _⟩ := fo_inv (F := run T n k) (n := n) (tg := .nm 3) (b := b_law_mates_2) (ds := rngD 0 L.length) (k := 0) (e := [some (.fz (tnD L)), some (.dk []), some (.dt []), none, none, none])
    (fun i e => ∃ (f : List (Nat × (Nat × Nat))) (m : MD) (x3 x4 x5 : Option O), e = [some (.fz (tnD L)), some (.dk (fO f)), some (.dt (mO m)), x3, x4, x5] ∧ Sc (endsG ((numb L).take i)) f m ∧ f.length ≤ (endsG ((numb L).take i)).length ∧ m.length ≤ 2 * (endsG ((numb L).take i)).length)
    ⟨[], [], none, none, none, rfl, Sc.nil, Nat.zero_le _, Nat.zero_le _⟩ (fun i e d hd hp => by
      obtain ⟨hi, rfl⟩ := rngD_get hd
      rw [Nat.zero_add] at hp ⊢
      obtain ⟨f, m, x3, x4, x5, rfl, sc, lf1, lm1⟩ := hp
      rw [Int.zero_add]
      have hr := rowL_get hi
      generalize hrr : rowL L i = r at hr
      have nr := numb_get hr
      have lr : r.length ≤ 1000 := by have := tv.sz r (List.mem_of_getElem? hr); omega
      have kr : rngOk (r.length : Int) = true := Nat.ble_eq_true_of_le (by omega)
      obtain ⟨e2, g2, f2, m2, y4, y5, rfl, sc2, lf2, lm2⟩ := fo_inv (F := run T n k) (n := n) (tg := .nm 4) (b := b_law_mates_1) (ds := rngD 0 r.length) (k := 0) (e := [some (.fz (tnD L)), some (.dk (fO f)), some (.dt (mO m)), some (iO i), x4, x5])
        (fun j e => ∃ (f : List (Nat × (Nat × Nat))) (m : MD) (x4 x5 : Option O), e = [some (.fz (tnD L)), some (.dk (fO f)), some (.dt (mO m)), some (iO i), x4, x5] ∧ Sc (pre (numb L) i j i r) f m ∧ f.length ≤ (pre (numb L) i j i r).length ∧ m.length ≤ 2 * (pre (numb L) i j i r).length)
        ⟨f, m, x4, x5, rfl, by rw [pre_zero]; exact sc, by rw [pre_zero]; exact lf1, by rw [pre_zero]; exact lm1⟩ (fun j e d hd hp => by
          obtain ⟨hj, rfl⟩ := rngD_get hd
          rw [Nat.zero_add] at hp ⊢
          obtain ⟨f, m, x4, x5, rfl, sc, lf1, lm1⟩ := hp
          rw [Int.zero_add]
          have hw2 : r[j]? = some r[j] := List.getElem?_eq_getElem hj
          have pl1 := pre_le (j := j) nr
          have st := mate_turn (n := n) (k := k) (f := f) (m := m) (x5 := x5) hr hw2 (by omega) (by omega)
          have sl := step_len (f := f) (m := m) (x := ((i, j), r[j]))
          have sc' := scan_step numb_nd es nr hw2 sc
          refine ⟨_, _, rfl, .inl st, _, _, _, _, rfl, sc', ?_, ?_⟩
          · rw [pre_snoc hw2, List.length_append, List.length_singleton]; omega
          · rw [pre_snoc hw2, List.length_append, List.length_singleton]; omega)
      rw [Nat.zero_add, rngD_len, pre_done nr] at sc2 lf2 lm2
      refine ⟨_, [some (.fz (tnD L)), some (.dk (fO f2)), some (.dt (mO m2)), some (iO i), y4, y5], rfl, .inl ?_, f2, m2, _, _, _, rfl, sc2, lf2, lm2⟩
      have i1 := item_tn hr
      have l1 := len_row lr
      have it : evIt (run T n k) (.rng1 (.bl1 .len (.ix (.var 0) (.var 3)))) [some (.fz (tnD L)), some (.dk (fO f)), some (.dt (mO m)), some (iO i), x4, x5] = .ok (rngD 0 r.length) [some (.fz (tnD L)), some (.dk (fO f)), some (.dt (mO m)), some (iO i), x4, x5] := by
        generalize tnD L = tn at *
        generalize rwN r = rr at *
        generalize fO f = fo_ at *
        generalize mO m = mo at *
        simp [pl, qt, i1, l1, kr]
      rw [b_law_mates_2, exs_cons, ex_forr]
      show thn2 _ ((evIt (run T n k) (.rng1 (.bl1 .len (.ix (.var 0) (.var 3)))) [some (.fz (tnD L)), some (.dk (fO f)), some (.dt (mO m)), some (iO i), x4, x5]).bind _) = _
      rw [it, bind_ok_, g2, thn2_nx, exs_nil])
  rw [Nat.zero_add, rngD_len, List.take_of_length_le (by rw [numb_len]; exact Nat.le_refl _)] at sc
  refine ⟨m, [some (.fz (tnD L))], tv.mt sc.ms, ?_⟩
  have lt := len_tn (L := L)
  generalize mO m = mo at *
  generalize fO f = fo_ at *
  generalize tnD L = tn at *
  generalize hq : runB _ _ _ _ _ _ = q
  simp [runB, d_law_mates, b_law_mates, pl, qt, lt, km, g1, asSs, asS, tgS, wipeE] at hq
  exact hq.symm
/-! ### corners -/
theorem r_corners {P w : Nat} {L : TL} (tv : Tv P w L) (hw : w ≤ 15) : ∃ ps : Rim.Env, run T n (k + 1) "_law_corners" [.fz (tnD L), iO P] = .ok (.lst ((cornersL P L).map eO)) ps := by
  rw [show ("_law_corners" : Str) = d_law_corners.name from rfl, run_b nodupT (by simp [T]) rfl]
  have hs : sizeLine = 16777216 := by decide
  have hL : L.length ≤ 16 := by have := tv.hl; have := tv.p6; omega
  have km : rngOk (L.length : Int) = true := Nat.ble_eq_true_of_le (by omega)
  have cl := corners_le tv hw
  have part : ∀ i, (((numb L).take i).flatMap fun q => (List.range (q.2.length + if q.1 < P then 1 else 0)).map fun k => (q.1, k)).length ≤ 496 := fun i => by
    refine Nat.le_trans ?_ cl
    unfold cornersL
    conv => rhs; rw [← List.take_append_drop i (numb L), List.flatMap_append, List.length_append]
    omega
  obtain ⟨e1, g1, x3, rfl⟩ := fo_inv (F := run T n k) (n := n) (tg := .nm 3) (b := b_law_corners_1) (ds := rngD 0 L.length) (k := 0) (e := [some (.fz (tnD L)), some (iO P), some (.lst []), none, none])
    (fun i e => ∃ x3, e = [some (.fz (tnD L)), some (iO P), some (.lst ((((numb L).take i).flatMap fun q => (List.range (q.2.length + if q.1 < P then 1 else 0)).map fun k => (q.1, k)).map eO)), x3, none])
    ⟨none, rfl⟩ (fun i e d hd hp => by
      obtain ⟨hi, rfl⟩ := rngD_get hd
      rw [Nat.zero_add] at hp ⊢
      obtain ⟨x3, rfl⟩ := hp
      rw [Int.zero_add]
      have hr := rowL_get hi
      generalize hrr : rowL L i = r at hr
      have nr := numb_get hr
      have lr : r.length ≤ 30 := by have := tv.sz r (List.mem_of_getElem? hr); omega
      have i1 := item_tn hr
      have l1 := len_row (r := r) (by omega)
      have b1 := part i
      have b2 := part (i + 1)
      rw [take_snoc nr, List.flatMap_append, List.flatMap_cons, List.flatMap_nil, List.append_nil, List.map_append]
      rw [take_snoc nr, List.flatMap_append, List.flatMap_cons, List.flatMap_nil, List.append_nil, List.length_append] at b2
      refine ⟨_, [some (.fz (tnD L)), some (iO P), some (.lst ((((numb L).take i).flatMap fun q => (List.range (q.2.length + if q.1 < P then 1 else 0)).map fun k => (q.1, k)).map eO ++ ((List.range (r.length + if i < P then 1 else 0)).map fun k => (i, k)).map eO)), some (iO i), none], rfl, .inl ?_, some (iO i), rfl⟩
      generalize ((numb L).take i).flatMap (fun q => (List.range (q.2.length + if q.1 < P then 1 else 0)).map fun k => (q.1, k)) = acc at *
      obtain ⟨c, hc, hc2⟩ : ∃ c : Nat, (r.length + if i < P then 1 else 0) = c ∧ c ≤ 31 := ⟨_, rfl, by split <;> omega⟩
      rw [hc] at b2 ⊢
      have kc : rngOk (c : Int) = true := Nat.ble_eq_true_of_le (by omega)
      have cc : co (run T n k) (.nm 4) [4] .no (.tup (.cons (.var 3) (.cons (.var 4) .nil))) (rngD 0 c) [some (.fz (tnD L)), some (iO P), none, some (iO i), none] = .ok (((List.range c).map fun k => (i, k)).map eO) [some (.fz (tnD L)), some (iO P), none, some (iO i), none] := by
        rw [rngD_nat]
        have z := co_mapA (F := run T n k) (enc := natD) (g := fun j : Nat => eO (i, j)) (v := 4) (elt := .tup (.cons (.var 3) (.cons (.var 4) .nil))) (e := [some (.fz (tnD L)), some (iO P), none, some (iO i), none]) rfl (xs := List.range c) (fun j hj => by
          have mt : mkTup [iO i, .fz (natD j)] = eO (i, j) := rfl
          generalize tnD L = tn at *
          simp [mt, strRoom, hs]
          rfl)
        rw [z, List.map_map]
        rfl
      have it : evIt (run T n k) (.rng1 (.bin .add (.bl1 .len (.ix (.var 0) (.var 3))) (.bl1 .int (.cmp .lt (.var 3) (.var 1))))) [some (.fz (tnD L)), some (iO P), none, some (iO i), none] = .ok (rngD 0 c) [some (.fz (tnD L)), some (iO P), none, some (iO i), none] := by
        have bi1 : bl1O .int (.fz (.bool true)) = some (iO 1) := rfl
        have bi0 : bl1O .int (.fz (.bool false)) = some (iO 0) := rfl
        generalize tnD L = tn at *
        generalize rwN r = rr at *
        by_cases q : i < P
        · have q' : (i : Int) < (P : Int) := by omega
          rw [if_pos q] at hc
          have e1 : (r.length : Int) + 1 = (c : Int) := by omega
          simp [pl, qt, i1, l1, q, q', bi1, e1, kc]
        · have q' : ¬ (i : Int) < (P : Int) := by omega
          rw [if_neg q] at hc
          have e1 : (r.length : Int) + 0 = (c : Int) := by omega
          have e2 : (r.length : Int) = (c : Int) := by omega
          simp [pl, qt, i1, l1, q, q', bi0, e1, e2, kc]
      have l2 : (((List.range c).map fun k => (i, k)).map eO).length ≤ 16777216 := by rw [List.length_map, List.length_map, List.length_range]; omega
      have ad : binO .add (.lst (acc.map eO)) (.lst (((List.range c).map fun k => (i, k)).map eO)) = some (.lst (acc.map eO ++ ((List.range c).map fun k => (i, k)).map eO)) := by
        have f1 : ∀ xs : List (Nat × Nat), Rim.listOf (.lst (xs.map eO)) = some (xs.map eD) := fun xs => by
          have : xs.map eO = (xs.map eD).map O.fz := by rw [List.map_map]; rfl
          rw [this]
          exact fzs_all
        have sr : strRoom ((acc.map eD).length + (((List.range c).map fun k => (i, k)).map eD).length) = true := Nat.ble_eq_true_of_le (room_of (by
          simp only [List.length_map, List.length_range] at b2 ⊢
          omega))
        simp only [binO, f1]
        rw [if_pos sr, List.map_append, List.map_map, List.map_map]
        rfl
      generalize (((List.range c).map fun k => (i, k)).map eO) = oN at *
      generalize acc.map eO = oA at *
      generalize tnD L = tn at *
      rw [b_law_corners_1, exs_cons, ex_set, ev_bin, ev_mov]
      show thn2 _ (Rs.bind (Rs.bind (ev _ true (.comp (.tup (.cons (.var 3) (.cons (.var 4) .nil))) (.nm 4) (.rng1 (.bin .add (.bl1 .len (.ix (.var 0) (.var 3))) (.bl1 .int (.cmp .lt (.var 3) (.var 1))))) .no [4]) [some (.fz tn), some (iO P), none, some (iO i), none]) _) _) = _
      rw [ev_comp, it, bind_ok_]
      show thn2 _ (Rs.bind (Rs.bind (Rs.bind (Rs.calm (co _ (.nm 4) [4] .no (.tup (.cons (.var 3) (.cons (.var 4) .nil))) (rngD 0 c) [some (.fz tn), some (iO P), none, some (iO i), none])) _) _) _) = _
      rw [cc]
      simp [pl, qt, strRoom, hs, l2, ad])
  rw [Nat.zero_add, rngD_len, List.take_of_length_le (by rw [numb_len]; exact Nat.le_refl _)] at g1
  refine ⟨[some (.fz (tnD L)), some (iO P)], ?_⟩
  have lt := len_tn (L := L)
  have g1' : fo (run T n k) n (.nm 3) b_law_corners_1 (rngD 0 L.length) [some (.fz (tnD L)), some (iO P), some (.lst []), none, none] = .ok .nx [some (.fz (tnD L)), some (iO P), some (.lst ((cornersL P L).map eO)), x3, none] := g1
  generalize (cornersL P L).map eO = oC at *
  generalize tnD L = tn at *
  generalize hq : runB _ _ _ _ _ _ = q
  simp [runB, d_law_corners, b_law_corners, pl, qt, lt, km, g1', strRoom, hs, asSs, asS, tgS, wipeE] at hq
  exact hq.symm
end
end K11
namespace K11
open PySem PySem.Spec PyProof.Rows L2 Rim Lp Gn
section
variable {n k : Nat}
theorem r_behind {P w : Nat} {L : TL} {m : MD} (tv : Tv P w L) (hw : w ≤ 15) (hm : Mates (numb L) m) {c : Nat × Nat} (hc : c ∈ cornersL P L) : ∃ ps : Rim.Env, run T n (k + 1) "_law_corner_behind" [.fz (tnD L), iO P, .fz (mD m), .fz (eD c)] = .ok (eO (nx P L m c)) ps := by
  rw [show ("_law_corner_behind" : Str) = d_law_corner_behind.name from rfl, run_b nodupT (by simp [T]) rfl]
  have hs : sizeLine = 16777216 := by decide
  obtain ⟨p, i⟩ := c
  obtain ⟨r, h1, h2⟩ := mem_corners.mp hc
  have lr : r.length ≤ 30 := by have := tv.sz r (List.mem_of_getElem? h1); omega
  have i1 := item_tn h1
  have l1 := len_row (r := r) (by omega)
  have rl := rowL_of h1
  have P0 : (0 : Int) < (P : Int) := by have := tv.p1; omega
  refine ⟨[some (.fz (tnD L)), some (iO P), some (.fz (mD m)), some (.fz (eD (p, i)))], ?_⟩
  have sg : setTgO (.tp (.nm 4) (.nm 5)) (.fz (eD (p, i))) [some (.fz (tnD L)), some (iO P), some (.fz (mD m)), some (.fz (eD (p, i))), none, none, none, none] = some [some (.fz (tnD L)), some (iO P), some (.fz (mD m)), some (.fz (eD (p, i))), some (iO p), some (iO i), none, none] := rfl
  have lt : Nat.ble 2 16777216 = true := rfl
  by_cases q : i = r.length
  · have e1 : nx P L m (p, i) = ((p + P - 1) % P, 0) := by
      unfold nx
      rw [if_pos (by rw [rl]; exact q)]
    have e2 : ((p : Int) - 1) % (P : Int) = (((p + P - 1) % P : Nat) : Int) := by
      rw [Int.natCast_emod, show ((p + P - 1 : Nat) : Int) = (p : Int) - 1 + (P : Int) by have := tv.p1; omega, Int.add_emod_right]
    have mt : O.fz (.tuple [.int (((p + P - 1) % P : Nat) : Int), .int 0]) = eO ((p + P - 1) % P, 0) := rfl
    have bm : binO .mod (iO ((p : Int) - 1)) (iO P) = some (iO (((p + P - 1) % P : Nat) : Int)) := by
      simp only [binO]
      rw [if_pos (decide_eq_true P0), e2]
    rw [e1]
    generalize hq : runB _ _ _ _ _ _ = q'
    generalize eD (p, i) = ed at *
    generalize mD m = md at *
    generalize tnD L = tn at *
    generalize rwN r = rr at *
    subst q
    generalize eO ((p + P - 1) % P, 0) = res at *
    generalize (p + P - 1) % P = pp at *
    simp [runB, d_law_corner_behind, b_law_corner_behind, pl, qt, qts, sg, i1, l1, bm, mt, strRoom, hs, asSs, asS, tgS, wipeE] at hq
    exact hq.symm
  · have q' : ¬ (i : Int) = (r.length : Int) := by omega
    obtain ⟨wr, he⟩ := corner_end hc (by rw [rl]; exact q)
    obtain ⟨⟨a, j⟩, g1, g2, g3⟩ := hm.get he
    obtain ⟨r2, k1, k2, k3⟩ := end_at g2
    have lr2 : r2.length ≤ 30 := by have := tv.sz r2 (List.mem_of_getElem? k1); omega
    have i2 := item_tn k1
    have l2 := len_row (r := r2) (by omega)
    have im : itemO (.fz (mD m)) (.tuple [.int p, .int i]) = some (eO (a, j)) := item_m g1
    have sg2 : setTgO (.tp (.nm 6) (.nm 7)) (eO (a, j)) [some (.fz (tnD L)), some (iO P), some (.fz (mD m)), some (.fz (eD (p, i))), some (iO p), some (iO i), none, none] = some [some (.fz (tnD L)), some (iO P), some (.fz (mD m)), some (.fz (eD (p, i))), some (iO p), some (iO i), some (iO a), some (iO j)] := rfl
    have e1 : nx P L m (p, i) = if a < P then (a, j + 1) else (a, (j + 1) % r2.length) := by
      unfold nx
      rw [if_neg (by rw [rl]; exact q), g1]
      simp only
      rw [rowL_of k1]
    have fz : isFz (eO (a, j)) = true := rfl
    by_cases qa : a < P
    · have qa' : (a : Int) < (P : Int) := by omega
      have mt : O.fz (.tuple [.int a, .int ((j : Int) + 1)]) = eO (a, j + 1) := rfl
      rw [e1, if_pos qa]
      generalize hq : runB _ _ _ _ _ _ = q''
      generalize hed : eD (p, i) = ed at *
      generalize mD m = md at *
      generalize tnD L = tn at *
      generalize rwN r = rr at *
      generalize rwN r2 = rr2 at *
      generalize eO (a, j + 1) = res at *
      generalize eO (a, j) = re at *
      simp [runB, d_law_corner_behind, b_law_corner_behind, pl, qt, qts, sg, i1, l1, q, q', im, fz, sg2, qa, qa', mt, strRoom, hs, asSs, asS, tgS, wipeE] at hq
      exact hq.symm
    · have qa' : ¬ (a : Int) < (P : Int) := by omega
      have l20 : (0 : Int) < (r2.length : Int) := by omega
      have e2 : ((j : Int) + 1) % (r2.length : Int) = (((j + 1) % r2.length : Nat) : Int) := by
        rw [Int.natCast_emod]
        rfl
      have mt : O.fz (.tuple [.int a, .int (((j + 1) % r2.length : Nat) : Int)]) = eO (a, (j + 1) % r2.length) := rfl
      have bm : binO .mod (iO ((j : Int) + 1)) (iO r2.length) = some (iO (((j + 1) % r2.length : Nat) : Int)) := by
        simp only [binO]
        rw [if_pos (decide_eq_true l20), e2]
      rw [e1, if_neg qa]
      generalize hq : runB _ _ _ _ _ _ = q''
      generalize hed : eD (p, i) = ed at *
      generalize mD m = md at *
      generalize tnD L = tn at *
      generalize rwN r = rr at *
      generalize rwN r2 = rr2 at *
      generalize eO (a, (j + 1) % r2.length) = res at *
      generalize (j + 1) % r2.length = jj at *
      generalize hl2 : (r2.length : Int) = ll at *
      generalize eO (a, j) = re at *
      simp [runB, d_law_corner_behind, b_law_corner_behind, pl, qt, qts, sg, i1, l1, q, q', im, fz, sg2, qa, qa', i2, l2, bm, mt, strRoom, hs, asSs, asS, tgS, wipeE] at hq
      exact hq.symm
theorem ne_e {a c : Nat × Nat} : cmpO .ne (eO a) (eO c) = some (!decide (a = c)) := by
  have sh : ∀ e : Nat × Nat, shp 64 (eD e) = true := fun e => by
    unfold eD
    simp
  have ev : PyData.eqv (eD a) (eD c) = decide (a = c) := by
    obtain ⟨a1, a2⟩ := a
    obtain ⟨c1, c2⟩ := c
    unfold eD
    by_cases h : (a1, a2) = (c1, c2)
    · cases h
      simp
    · have h' : ¬ (a1 = c1 ∧ a2 = c2) := fun z => h (by rw [z.1, z.2])
      rw [decide_eq_false h]
      by_cases q : a1 = c1
      · have : ¬ a2 = c2 := fun z => h' ⟨q, z⟩
        have : ¬ (a2 : Int) = (c2 : Int) := by omega
        simp [this]
      · have : ¬ (a1 : Int) = (c1 : Int) := by omega
        simp [this]
  show cmpO .ne (.fz (eD a)) (.fz (eD c)) = _
  rw [c_neD (sh a) (sh c), ev]
/-- a region's corners -/
def rg (P : Nat) (L : TL) (m : MD) (c : Nat × Nat) (i : Nat) : List (Nat × Nat) := (List.range i).map fun j => itr (nx P L m) j c
theorem r_region {P w : Nat} {L : TL} {m : MD} (hn : 1000 ≤ n) (tv : Tv P w L) (hw : w ≤ 15) (hm : Mates (numb L) m) {c : Nat × Nat} (hc : c ∈ cornersL P L) : ∃ (N : Nat) (ps : Rim.Env), 1 ≤ N ∧ N ≤ 496 ∧ itr (nx P L m) N c = c ∧ (∀ j, 1 ≤ j → j < N → itr (nx P L m) j c ≠ c) ∧ run T n (k + 2) "_law_region" [.fz (tnD L), iO P, .fz (mD m), .fz (eD c)] = .ok (.lst ((rg P L m c N).map eO)) ps := by
  rw [show ("_law_region" : Str) = d_law_region.name from rfl, run_b nodupT (by simp [T]) rfl]
  have hs : sizeLine = 16777216 := by decide
  obtain ⟨N, n1, n2, n3, n4⟩ := region_ex hm tv.p1 tv.pl hc
  have cl := corners_le tv hw
  have itin := itr_in (nx_in hm tv.p1 tv.pl) hc
  have len : ∀ i, ((rg P L m c i).map eO).length = i := fun i => by
    unfold rg
    rw [List.length_map, List.length_map, List.length_range]
  have snoc : ∀ i, (rg P L m c (i + 1)).map eO = (rg P L m c i).map eO ++ [eO (itr (nx P L m) i c)] := fun i => by
    unfold rg
    rw [List.range_succ, List.map_append, List.map_append]
    rfl
  obtain ⟨ps0, b0⟩ := r_behind (n := n) (k := k) tv hw hm hc
  obtain ⟨f1, e1, g1, rfl, rfl⟩ := ok_wh (F := run T n (k + 1)) (n := n) (c := .cmp .ne (.var 5) (.var 3)) (b := b_law_region_1)
    (S := fun f e => f = .nx ∧ e = [some (.fz (tnD L)), some (iO P), some (.fz (mD m)), some (.fz (eD c)), some (.lst ((rg P L m c N).map eO)), some (eO c)])
    (fun kk e => ∃ i, 1 ≤ i ∧ i ≤ N ∧ kk = N - i ∧ e = [some (.fz (tnD L)), some (iO P), some (.fz (mD m)), some (.fz (eD c)), some (.lst ((rg P L m c i).map eO)), some (eO (itr (nx P L m) i c))])
    (m := n) (e := [some (.fz (tnD L)), some (iO P), some (.fz (mD m)), some (.fz (eD c)), some (.lst [eO c]), some (eO (nx P L m c))]) (N - 1) (by omega) ⟨1, Nat.le_refl _, n1, rfl, rfl⟩ (fun kk e hk2 hp => by
      obtain ⟨i, h1, h2, rfl, rfl⟩ := hp
      have ne := ne_e (a := itr (nx P L m) i c) (c := c)
      have i5 : isFz (eO (itr (nx P L m) i c)) = true := rfl
      have i3 : O.fz (eD c) = eO c := rfl
      by_cases q : i = N
      · subst q
        refine ⟨false, [some (.fz (tnD L)), some (iO P), some (.fz (mD m)), some (.fz (eD c)), some (.lst ((rg P L m c i).map eO)), some (eO c)], ?_, rfl, rfl⟩
        rw [n3] at ne i5 ⊢
        rw [i3]
        have d : decide (c = c) = true := decide_eq_true rfl
        rw [d] at ne
        generalize eO c = ec at *
        generalize (rg P L m c i).map eO = rr at *
        generalize mD m = md at *
        generalize tnD L = tn at *
        simp [pl, qt, ne]
      · have hq := n4 i h1 (by omega)
        rw [decide_eq_false hq] at ne
        obtain ⟨ps, bb⟩ := r_behind (n := n) (k := k) tv hw hm (itin i)
        have ln := len i
        refine ⟨true, [some (.fz (tnD L)), some (iO P), some (.fz (mD m)), some (.fz (eD c)), some (.lst ((rg P L m c i).map eO)), some (eO (itr (nx P L m) i c))], ?_, .nx, [some (.fz (tnD L)), some (iO P), some (.fz (mD m)), some (.fz (eD c)), some (.lst ((rg P L m c (i + 1)).map eO)), some (eO (itr (nx P L m) (i + 1) c))], ?_, N - (i + 1), by omega, i + 1, by omega, by omega, rfl, rfl⟩
        · rw [i3]
          generalize eO c = ec at *
          generalize eO (itr (nx P L m) i c) = ei at *
          generalize (rg P L m c i).map eO = rr at *
          generalize mD m = md at *
          generalize tnD L = tn at *
          simp [pl, qt, ne]
        · rw [snoc i]
          have i6 : eO (itr (nx P L m) i c) = .fz (eD (itr (nx P L m) i c)) := rfl
          have bb' : run T n (k + 1) "_law_corner_behind" [.fz (tnD L), iO P, .fz (mD m), .fz (eD (itr (nx P L m) i c))] = .ok (eO (itr (nx P L m) (i + 1) c)) ps := bb
          rw [i6]
          generalize eO (itr (nx P L m) (i + 1) c) = ej at *
          generalize eD (itr (nx P L m) i c) = ei at *
          generalize (rg P L m c i).map eO = rr at *
          generalize mD m = md at *
          generalize tnD L = tn at *
          generalize eD c = ec at *
          have lt : rr.length < 16777216 := by omega
          simp [b_law_region_1, pl, qt, qts, hasBor, backAr, Ar.o, bb', strRoom, hs, lt])
  refine ⟨N, [some (.fz (tnD L)), some (iO P), some (.fz (mD m)), some (.fz (eD c))], n1, by omega, n3, n4, ?_⟩
  have i3 : eO c = O.fz (eD c) := rfl
  rw [i3] at g1
  generalize (rg P L m c N).map eO = rr at *
  generalize eO (nx P L m c) = en at *
  generalize mD m = md at *
  generalize tnD L = tn at *
  generalize eD c = ec at *
  generalize hq : runB _ _ _ _ _ _ = q
  simp [runB, d_law_region, b_law_region, pl, qt, qts, hasBor, backAr, Ar.o, b0, g1, strRoom, hs, asSs, asS, tgS, wipeE] at hq
  exact hq.symm
end
end K11
namespace K11
open PySem PySem.Spec PyProof.Rows L2 Rim Lp Gn
section
variable {n k : Nat}
def rwI (r : List Nat) : O := .lst (r.map fun (w : Nat) => iO (w : Int))
def tnO (L : TL) : O := .lst (L.map rwI)
theorem er_rwI {r : List Nat} : er (rwI r) = rwN r := by
  unfold rwI rwN
  rw [er_lst, ers_map2]
  congr 1
theorem er_tn {L : TL} : er (tnO L) = tnD L := by
  unfold tnO tnD
  rw [er_lst, ers_map2]
  congr 1
  exact List.map_congr_left fun r _ => er_rwI
theorem ers_e {xs : List (Nat × Nat)} : ers (xs.map eO) = xs.map eD := by
  rw [ers_map2]
  congr 1
theorem lf_es : ∀ {xs : List (Nat × Nat)}, lfOs (xs.map eO) = true
  | [] => rfl
  | x :: xs => by
    rw [List.map_cons]
    unfold lfOs
    rw [lf_es (xs := xs)]
    rfl
theorem lf_m : ∀ {m : MD}, lfOt (mO m) = true
  | [] => rfl
  | x :: m => by
    show (lfO (eO x.2) && lfOt (mO m)) = true
    rw [lf_m (m := m)]
    rfl
theorem lent_none : ∀ {as : List Ar} {ps : Rim.Env}, (∀ a ∈ as, ∀ i o, a ≠ .lend i o) → lfE (lentE as ps) = true
  | [], ps, _ => by
    unfold lentE
    induction ps with
    | nil => rfl
    | cons p ps ih => simpa [lfE] using ih
  | a :: as, [], h => by
    cases a with
    | lend i o => exact absurd rfl (h _ List.mem_cons_self i o)
    | val o => rfl
    | bor o => rfl
  | a :: as, p :: ps, h => by
    cases a with
    | lend i o => exact absurd rfl (h _ List.mem_cons_self i o)
    | val o => exact lent_none (as := as) (ps := ps) fun a ha => h a (List.mem_cons_of_mem _ ha)
    | bor o => exact lent_none (as := as) (ps := ps) fun a ha => h a (List.mem_cons_of_mem _ ha)
theorem item_es {xs : List (Nat × Nat)} {i : Nat} {c : Nat × Nat} (h : xs[i]? = some c) : itemO (.fz (.list (xs.map eD))) (.int (i : Int)) = some (eO c) := by
  have a : atI (xs.map eD) (i : Int) = some (eD c) := by
    rw [atI_pos (by omega), Int.toNat_natCast, List.getElem?_map, h]
    rfl
  show (match (atI (xs.map eD) (i : Int)).map O.fz with | some o => some o | none => _) = _
  rw [a]
  rfl
theorem ins_ok {F : Fns} {e : Rim.Env} {L : TL} {p kk w : Nat} {pE kE : E} {bb : Bool} (he : e[4]? = some (some (tnO L))) (hw : e[5]? = some (some (iO w))) (hp : ev F false pE e = .ok (iO p) e) (hk : ev F false kE e = .ok (iO kk) e) (qp : qt pE = true) (qk : qt kE = true) (lp : p < L.length) (lk : (rowL L p).length < 1000) (lkk : kk < 1000) :
    ev F bb (.mut .insert (.ix (.nm 4) pE) (.cons kE (.cons (.var 5) .nil))) e = .ok (.fz .none) (e.set 4 (some (tnO (insL L p kk w)))) := by
  have hs : sizeLine = 16777216 := by decide
  have ix : ixN (L.map rwI).length (p : Int) = some p := by
    unfold ixN
    rw [List.length_map, if_pos (by omega), if_pos (by omega)]
    simp
  have gt : (L.map rwI)[p]? = some (rwI (rowL L p)) := by
    rw [List.getElem?_map, rowL_get lp]
    rfl
  have gp : getP F (.ix (.nm 4) pE) e = some (4, .lst ((rowL L p).map fun (w : Nat) => iO (w : Int)), fun y => .lst ((L.map rwI).set p y)) := by
    rw [getP_ix, if_pos qp, getP_nm, he]
    simp only [hp]
    unfold tnO
    simp only [ix, gt]
    rfl
  have as : evEs F (.cons kE (.cons (.var 5) .nil)) e = .ok [iO kk, iO w] e := by
    rw [evEs_cons, hk, bind_ok_, evEs_cons, ev_var, hw]
    rfl
  have mt : mutO .insert ((rowL L p).map fun (w : Nat) => iO (w : Int)) [iO kk, iO w] = some ((((rowL L p).take kk ++ ([w] ++ (rowL L p).drop kk))).map fun (w : Nat) => iO (w : Int), .fz .none) := by
    have cd : (decide ((0 : Int) ≤ kk) && decide ((kk : Int) < 2 ^ 63) && decide (((rowL L p).map fun (w : Nat) => iO (w : Int)).length < sizeLine)) = true := by
      have b2 : (kk : Int) < 2 ^ 63 := Int.lt_of_lt_of_le (show (kk : Int) < 1000 by omega) (by decide +kernel)
      rw [decide_eq_true (show (0 : Int) ≤ kk by omega), decide_eq_true b2, decide_eq_true (by rw [List.length_map, hs]; omega), Bool.and_self, Bool.and_self]
    simp only [mutO]
    rw [cd, if_pos rfl, Int.toNat_natCast, List.map_append, List.map_append, List.map_take, List.map_drop, List.append_assoc]
    rfl
  have qs : qts (.cons kE (.cons (.var 5) .nil)) = true := by simp [qts, qk, qt]
  rw [ev_mut, gp]
  simp only [qs, if_true, as]
  show Rs.bind (Rs.ok [iO kk, iO w] e) _ = _
  rw [bind_ok_]
  simp only [mt]
  unfold tnO insL
  rw [List.map_set]
  rfl
theorem len_tO {L : TL} : bl1O .len (tnO L) = some (iO L.length) := by
  show some (O.fz (.int (((L.map rwI).length : Nat) : Int))) = _
  rw [List.length_map]
theorem len_es {xs : List (Nat × Nat)} : bl1O .len (.fz (.list (xs.map eD))) = some (iO xs.length) := by
  show some (O.fz (.int (((xs.map eD).length : Nat) : Int))) = _
  rw [List.length_map]
theorem srt_two {c d : Nat × Nat} : ∃ a b, [a, b].Perm [c, d] ∧ srtO true (.lst [eO c, eO d]) = some (.lst [eO a, eO b]) := by
  have b : srtB (ers [eO c, eO d]) = true := by
    unfold srtB
    have e1 : ers [eO c, eO d] = [eD c, eD d] := rfl
    rw [e1]
    simp only [Bool.and_eq_true, Bool.or_eq_true, List.all_eq_true]
    have two : ∀ x ∈ [eD c, eD d], ∃ e : Nat × Nat, x = eD e := fun x hx => by
      simp only [List.mem_cons, List.not_mem_nil, or_false] at hx
      rcases hx with rfl | rfl
      · exact ⟨c, rfl⟩
      · exact ⟨d, rfl⟩
    refine ⟨⟨⟨fun x hx y hy => ?_, .inl fun x hx => ?_⟩, fun x hx => ?_⟩, rfl⟩
    · obtain ⟨_, rfl⟩ := two x hx
      obtain ⟨_, rfl⟩ := two y hy
      rfl
    · obtain ⟨_, rfl⟩ := two x hx
      rfl
    · obtain ⟨e, rfl⟩ := two x hx
      rw [shaped_shp]
      unfold eD
      simp
  obtain ⟨l, p, e⟩ := perm_lift eO (List.mergeSort_perm [eO c, eO d] (PySem.W.dataLe true er)) [c, d] rfl
  match l, p.length_eq with
  | [x, y], _ =>
    refine ⟨x, y, p, ?_⟩
    unfold srtO
    simp only [b, if_true]
    rw [← e]
    rfl
theorem grow_turn {P w : Nat} {L : TL} {big : Int} {x2 x6 x7 x8 x9 x10 x11 x12 : Option O} (hn : 1000 ≤ n) (tv : Tv P w L) (hw : w < 15) :
    ∃ (L' : TL) (big' : Int) (y6 y7 y8 y9 y10 y11 y12 : Option O), Tv P (w + 1) L' ∧ exs (run T n (k + 3)) n b_law_grown_2 [some (iO big), some (iO P), x2, some (iO 10), some (tnO L), some (iO w), x6, x7, x8, x9, x10, x11, x12] = .ok .nx [some (iO big'), some (iO P), x2, some (iO 10), some (tnO L'), some (iO w), y6, y7, y8, y9, y10, y11, y12] := by
  have hs : sizeLine = 16777216 := by decide
  have P1 := tv.p1
  have cl := corners_le tv (by omega)
  have hL : L.length ≤ 16 := by have := tv.hl; have := tv.p6; omega
  obtain ⟨ps0, gc⟩ := r_corners (n := n) (k := k + 2) tv (by omega)
  obtain ⟨m, ps1, hm, gm⟩ := r_mates (n := n) (k := k + 2) tv (by omega)
  have ert := er_tn (L := L)
  have fzt : isFz (tnO L) = false := rfl
  have lfc := lf_es (xs := cornersL P L)
  have c0 : (0, 0) ∈ cornersL P L := mem_corners.mpr ⟨_, rowL_get (by have := tv.pl; omega), by rw [if_pos (by omega)]; omega⟩
  have cpos := List.length_pos_of_mem c0
  generalize hlc : (cornersL P L).length = lc at *
  have hlc0 : (0 : Int) < (lc : Int) := by omega
  obtain ⟨i0, hi0, hi1⟩ : ∃ i : Nat, big % (lc : Int) = i ∧ i < lc := ⟨(big % (lc : Int)).toNat, by have := Int.emod_nonneg big (show (lc : Int) ≠ 0 by omega); omega, by have := Int.emod_lt_of_pos big hlc0; have := Int.emod_nonneg big (show (lc : Int) ≠ 0 by omega); omega⟩
  obtain ⟨c, hc⟩ : ∃ c, (cornersL P L)[i0]? = some c := ⟨_, List.getElem?_eq_getElem (by omega)⟩
  have mc := List.mem_of_getElem? hc
  obtain ⟨rc, hc1, hc2⟩ := mem_corners.mp (show (c.1, c.2) ∈ cornersL P L from mc)
  have itc := item_es hc
  have lec := len_es (xs := cornersL P L)
  rw [hlc] at lec
  have cdl : cdivB (lc : Int) = true := cdivB_lit hlc0 (lt_pow (a := 9) (by omega) (by decide))
  have bm : binO .mod (iO big) (iO lc) = some (iO i0) := by
    simp only [binO]
    rw [if_pos (decide_eq_true hlc0), hi0]
  obtain ⟨b1, hb1⟩ : ∃ b1, big / (lc : Int) = b1 := ⟨_, rfl⟩
  obtain ⟨b2, hb2⟩ : ∃ b2, b1 / 3 = b2 := ⟨_, rfl⟩
  have cd3 : cdivB 3 = true := by decide
  have t1 : ex (run T n (k + 3)) n (.set 6 (.call "_law_corners" (.cons .bor (.var 4) (.cons .val (.var 1) .nil)))) [some (iO big), some (iO P), x2, some (iO 10), some (tnO L), some (iO w), x6, x7, x8, x9, x10, x11, x12] = .ok .nx [some (iO big), some (iO P), x2, some (iO 10), some (tnO L), some (iO w), some (.lst ((cornersL P L).map eO)), x7, x8, x9, x10, x11, x12] := by
    generalize tnD L = tn at *
    generalize htO : tnO L = to at *
    generalize (cornersL P L).map eO = co at *
    have le : lfE (lentE [Ar.bor to, Ar.val (iO P)] ps0) = true := lent_none (by simp)
    simp [pl, qt, qtA, hasBor, backAr, Ar.o, ert, fzt, gc, lfO, lfc, le]
  have t2 : ex (run T n (k + 3)) n (.frz 6) [some (iO big), some (iO P), x2, some (iO 10), some (tnO L), some (iO w), some (.lst ((cornersL P L).map eO)), x7, x8, x9, x10, x11, x12] = .ok .nx [some (iO big), some (iO P), x2, some (iO 10), some (tnO L), some (iO w), some (.fz (.list ((cornersL P L).map eD))), x7, x8, x9, x10, x11, x12] := by
    rw [ex_frz]
    simp only [List.getElem?_cons_zero, List.getElem?_cons_succ, List.set_cons_succ, List.set_cons_zero, er_lst, ers_e]
  have t3 : ex (run T n (k + 3)) n (.set 7 (.ix (.var 6) (.bin .mod (.var 0) (.bl1 .len (.var 6))))) [some (iO big), some (iO P), x2, some (iO 10), some (tnO L), some (iO w), some (.fz (.list ((cornersL P L).map eD))), x7, x8, x9, x10, x11, x12] = .ok .nx [some (iO big), some (iO P), x2, some (iO 10), some (tnO L), some (iO w), some (.fz (.list ((cornersL P L).map eD))), some (.fz (eD c)), x8, x9, x10, x11, x12] := by
    have z : eO c = .fz (eD c) := rfl
    rw [z] at itc
    generalize hl : PyData.list ((cornersL P L).map eD) = cd at *
    generalize eD c = ec at *
    generalize tnO L = to at *
    simp [pl, qt, lec, bm, itc]
  have t4 : ex (run T n (k + 3)) n (.set 0 (.bin .fdiv (.var 0) (.bl1 .len (.var 6)))) [some (iO big), some (iO P), x2, some (iO 10), some (tnO L), some (iO w), some (.fz (.list ((cornersL P L).map eD))), some (.fz (eD c)), x8, x9, x10, x11, x12] = .ok .nx [some (iO b1), some (iO P), x2, some (iO 10), some (tnO L), some (iO w), some (.fz (.list ((cornersL P L).map eD))), some (.fz (eD c)), x8, x9, x10, x11, x12] := by
    generalize hl : PyData.list ((cornersL P L).map eD) = cd at *
    generalize eD c = ec at *
    generalize tnO L = to at *
    simp [pl, qt, lec, cdl, hb1]
  have t5 : ex (run T n (k + 3)) n (.set 8 (.bin .mod (.var 0) (.int 3))) [some (iO b1), some (iO P), x2, some (iO 10), some (tnO L), some (iO w), some (.fz (.list ((cornersL P L).map eD))), some (.fz (eD c)), x8, x9, x10, x11, x12] = .ok .nx [some (iO b1), some (iO P), x2, some (iO 10), some (tnO L), some (iO w), some (.fz (.list ((cornersL P L).map eD))), some (.fz (eD c)), some (iO (b1 % 3)), x9, x10, x11, x12] := by
    generalize hl : PyData.list ((cornersL P L).map eD) = cd at *
    generalize eD c = ec at *
    generalize tnO L = to at *
    simp [pl, qt]
  have t6 : ex (run T n (k + 3)) n (.set 0 (.bin .fdiv (.var 0) (.int 3))) [some (iO b1), some (iO P), x2, some (iO 10), some (tnO L), some (iO w), some (.fz (.list ((cornersL P L).map eD))), some (.fz (eD c)), some (iO (b1 % 3)), x9, x10, x11, x12] = .ok .nx [some (iO b2), some (iO P), x2, some (iO 10), some (tnO L), some (iO w), some (.fz (.list ((cornersL P L).map eD))), some (.fz (eD c)), some (iO (b1 % 3)), x9, x10, x11, x12] := by
    generalize hl : PyData.list ((cornersL P L).map eD) = cd at *
    generalize eD c = ec at *
    generalize tnO L = to at *
    simp [pl, qt, cd3, hb2]
  obtain ⟨x, hx⟩ : ∃ x, b1 % 3 = x := ⟨_, rfl⟩
  rw [hx] at t5 t6
  have lt := len_tO (L := L)
  have lpc : c.1 < L.length := by
    rcases Nat.lt_or_ge c.1 L.length with z | z
    · exact z
    · rw [List.getElem?_eq_none z] at hc1; cases hc1
  have szr : ∀ p, (rowL L p).length ≤ 30 := fun p => by
    rcases row_in (L := L) (p := p) with y | y
    · have := tv.sz _ y; omega
    · rw [y]; exact Nat.zero_le _
  have kc : c.2 < 1000 := by
    have := szr c.1
    rw [rowL_of hc1] at this
    split at hc2 <;> omega
  by_cases q : x = 0 ∧ L.length < P + 10
  · obtain ⟨q1, q2⟩ := q
    have q2' : (L.length : Int) < (P : Int) + 10 := by omega
    have ix0 : itemO (.fz (eD c)) (.int 0) = some (iO c.1) := rfl
    have ix1 : itemO (.fz (eD c)) (.int 1) = some (iO c.2) := rfl
    have ins := ins_ok (F := (run T n (k + 3))) (bb := false) (e := [some (iO b2), some (iO P), x2, some (iO 10), some (tnO L), some (iO w), some (.fz (.list ((cornersL P L).map eD))), some (.fz (eD c)), some (iO x), x9, x10, x11, x12]) (L := L) (p := c.1) (kk := c.2) (w := w) (pE := .ix (.var 7) (.int 0)) (kE := .ix (.var 7) (.int 1)) rfl rfl (by generalize eD c = ec at *; generalize tnO L = to at *; generalize PyData.list ((cornersL P L).map eD) = cd at *; simp [pl, qt, ix0]) (by generalize eD c = ec at *; generalize tnO L = to at *; generalize PyData.list ((cornersL P L).map eD) = cd at *; simp [pl, qt, ix1]) rfl rfl lpc (by have := szr c.1; omega) kc
    have a1 : ex (run T n (k + 3)) n (.expr (.mut .insert (.ix (.nm 4) (.ix (.var 7) (.int 0))) (.cons (.ix (.var 7) (.int 1)) (.cons (.var 5) .nil)))) [some (iO b2), some (iO P), x2, some (iO 10), some (tnO L), some (iO w), some (.fz (.list ((cornersL P L).map eD))), some (.fz (eD c)), some (iO x), x9, x10, x11, x12] = .ok .nx [some (iO b2), some (iO P), x2, some (iO 10), some (tnO (insL L c.1 c.2 w)), some (iO w), some (.fz (.list ((cornersL P L).map eD))), some (.fz (eD c)), some (iO x), x9, x10, x11, x12] := by
      rw [ex_expr]
      rw [ins]
      rfl
    have a2 : ex (run T n (k + 3)) n (.expr (.mut .append (.nm 4) (.cons (.lst (.cons (.var 5) .nil)) .nil))) [some (iO b2), some (iO P), x2, some (iO 10), some (tnO (insL L c.1 c.2 w)), some (iO w), some (.fz (.list ((cornersL P L).map eD))), some (.fz (eD c)), some (iO x), x9, x10, x11, x12] = .ok .nx [some (iO b2), some (iO P), x2, some (iO 10), some (tnO (insL L c.1 c.2 w ++ [[w]])), some (iO w), some (.fz (.list ((cornersL P L).map eD))), some (.fz (eD c)), some (iO x), x9, x10, x11, x12] := by
      have e1 : tnO (insL L c.1 c.2 w ++ [[w]]) = .lst ((insL L c.1 c.2 w).map rwI ++ [.lst [iO w]]) := by
        unfold tnO
        rw [List.map_append]
        congr 1
      have e2 : tnO (insL L c.1 c.2 w) = .lst ((insL L c.1 c.2 w).map rwI) := rfl
      have ll : ((insL L c.1 c.2 w).map rwI).length < 16777216 := by rw [List.length_map, insL_len]; omega
      rw [e1, e2]
      generalize (insL L c.1 c.2 w).map rwI = rr at *
      generalize eD c = ec at *
      generalize PyData.list ((cornersL P L).map eD) = cd at *
      simp [pl, qt, qts, strRoom, hs, ll]
    refine ⟨insL L c.1 c.2 w ++ [[w]], b2, some (.fz (.list ((cornersL P L).map eD))), some (.fz (eD c)), some (iO x), x9, x10, x11, x12, tv.point lpc q2, ?_⟩
    have it : ex (run T n (k + 3)) n (.ite (.band (.cmp .eq (.var 8) (.int 0)) (.cmp .lt (.bl1 .len (.var 4)) (.bin .add (.var 1) (.var 3)))) (.cons (.expr (.mut .insert (.ix (.nm 4) (.ix (.var 7) (.int 0))) (.cons (.ix (.var 7) (.int 1)) (.cons (.var 5) .nil)))) (.cons (.expr (.mut .append (.nm 4) (.cons (.lst (.cons (.var 5) .nil)) .nil))) .nil)) (.cons (.set 9 (.call "_law_region" (.cons (.borA 4) (.var 4) (.cons .val (.var 1) (.cons .val (.frz (.call "_law_mates" (.cons .bor (.var 4) .nil))) (.cons .val (.var 7) .nil)))))) (.cons (.frz 9) (.cons (.set 10 (.ix (.var 9) (.bin .mod (.var 0) (.bl1 .len (.var 9))))) (.cons (.set 0 (.bin .fdiv (.var 0) (.bl1 .len (.var 9)))) (.cons (.forr (.tp (.nm 11) (.nm 12)) (.seq (.srt (.lst (.cons (.var 7) (.cons (.var 10) .nil))) true)) b_law_grown_1) .nil)))))) [some (iO b2), some (iO P), x2, some (iO 10), some (tnO L), some (iO w), some (.fz (.list ((cornersL P L).map eD))), some (.fz (eD c)), some (iO x), x9, x10, x11, x12] = exs (run T n (k + 3)) n (.cons (.expr (.mut .insert (.ix (.nm 4) (.ix (.var 7) (.int 0))) (.cons (.ix (.var 7) (.int 1)) (.cons (.var 5) .nil)))) (.cons (.expr (.mut .append (.nm 4) (.cons (.lst (.cons (.var 5) .nil)) .nil))) .nil)) [some (iO b2), some (iO P), x2, some (iO 10), some (tnO L), some (iO w), some (.fz (.list ((cornersL P L).map eD))), some (.fz (eD c)), some (iO x), x9, x10, x11, x12] := by
      rw [ex_ite]
      generalize eD c = ec at *
      generalize tnO L = to at *
      generalize PyData.list ((cornersL P L).map eD) = cd at *
      simp [pl, qt, q1, lt, q2', -exs_cons, -ex_expr]
    rw [b_law_grown_2, exs_cons, t1, thn2_nx, exs_cons, t2, thn2_nx, exs_cons, t3, thn2_nx, exs_cons, t4, thn2_nx, exs_cons, t5, thn2_nx, exs_cons, t6, thn2_nx, exs_cons, it, exs_cons, a1, thn2_nx, exs_cons, a2, thn2_nx, exs_nil, thn2_nx, exs_nil]
  · obtain ⟨N, ps2, n1, n2, _, _, gr⟩ := r_region (n := n) (k := k + 1) hn tv (by omega) hm mc
    have lfr := lf_es (xs := rg P L m c N)
    have lN : (rg P L m c N).length = N := by
      unfold rg
      rw [List.length_map, List.length_range]
    have leN := len_es (xs := rg P L m c N)
    rw [lN] at leN
    have N0 : (0 : Int) < (N : Int) := by omega
    obtain ⟨i1, hi2, hi3⟩ : ∃ i : Nat, b2 % (N : Int) = i ∧ i < N := ⟨(b2 % (N : Int)).toNat, by have := Int.emod_nonneg b2 (show (N : Int) ≠ 0 by omega); omega, by have := Int.emod_lt_of_pos b2 N0; have := Int.emod_nonneg b2 (show (N : Int) ≠ 0 by omega); omega⟩
    obtain ⟨d, hd⟩ : ∃ d, (rg P L m c N)[i1]? = some d := ⟨_, List.getElem?_eq_getElem (by omega)⟩
    have itd := item_es hd
    have md : d ∈ cornersL P L := by
      have := List.mem_of_getElem? hd
      obtain ⟨j, _, rfl⟩ := List.mem_map.mp this
      exact itr_in (nx_in hm tv.p1 tv.pl) mc j
    have cdN : cdivB (N : Int) = true := cdivB_lit N0 (lt_pow (a := 9) (by omega) (by decide))
    have bmN : binO .mod (iO b2) (iO N) = some (iO i1) := by
      simp only [binO]
      rw [if_pos (decide_eq_true N0), hi2]
    obtain ⟨b3, hb3⟩ : ∃ b3, b2 / (N : Int) = b3 := ⟨_, rfl⟩
    obtain ⟨a, b, pm, so⟩ := srt_two (c := c) (d := d)
    have inc : ∀ e, e ∈ [a, b] → e ∈ cornersL P L := fun e he => by
      have := pm.mem_iff.mp he
      simp only [List.mem_cons, List.not_mem_nil, or_false] at this
      rcases this with rfl | rfl
      · exact mc
      · exact md
    have lim : ∀ e, e ∈ cornersL P L → e.1 < L.length ∧ e.2 < 1000 := fun e he => by
      obtain ⟨r, h1, h2⟩ := mem_corners.mp (show (e.1, e.2) ∈ cornersL P L from he)
      have l1 : e.1 < L.length := by
        rcases Nat.lt_or_ge e.1 L.length with z | z
        · exact z
        · rw [List.getElem?_eq_none z] at h1; cases h1
      have := szr e.1
      rw [rowL_of h1] at this
      exact ⟨l1, by split at h2 <;> omega⟩
    obtain ⟨a1, a2⟩ := lim a (inc a List.mem_cons_self)
    obtain ⟨b1', b2'⟩ := lim b (inc b (List.mem_cons_of_mem _ List.mem_cons_self))
    have lfm := lf_m (m := m)
    have emd : er (.dt (mO m)) = mD m := by rw [er]; rfl
    have q' : ¬ (x = 0 ∧ (L.length : Int) < (P : Int) + 10) := fun z => q ⟨z.1, by omega⟩
    have s1 : ex (run T n (k + 3)) n (.set 9 (.call "_law_region" (.cons (.borA 4) (.var 4) (.cons .val (.var 1) (.cons .val (.frz (.call "_law_mates" (.cons .bor (.var 4) .nil))) (.cons .val (.var 7) .nil)))))) [some (iO b2), some (iO P), x2, some (iO 10), some (tnO L), some (iO w), some (.fz (.list ((cornersL P L).map eD))), some (.fz (eD c)), some (iO x), x9, x10, x11, x12] = .ok .nx [some (iO b2), some (iO P), x2, some (iO 10), some (tnO L), some (iO w), some (.fz (.list ((cornersL P L).map eD))), some (.fz (eD c)), some (iO x), some (.lst ((rg P L m c N).map eO)), x10, x11, x12] := by
      generalize tnD L = tn at *
      generalize htO : tnO L = to at *
      generalize mD m = md' at *
      generalize mO m = mo at *
      generalize (rg P L m c N).map eO = ro at *
      generalize eD c = ec at *
      generalize PyData.list ((cornersL P L).map eD) = cd at *
      have le : ∀ o, lfE (lentE [Ar.bor o] ps1) = true := fun o => lent_none (by simp)
      have le2 : ∀ o p q r, lfE (lentE [Ar.bor o, Ar.val p, Ar.val q, Ar.val r] ps2) = true := fun o p q r => lent_none (by simp)
      simp [pl, qt, qtA, hasBor, backAr, Ar.o, ert, fzt, gm, gr, lfO, lfr, lfm, emd, le, le2]
    have s2 : ex (run T n (k + 3)) n (.frz 9) [some (iO b2), some (iO P), x2, some (iO 10), some (tnO L), some (iO w), some (.fz (.list ((cornersL P L).map eD))), some (.fz (eD c)), some (iO x), some (.lst ((rg P L m c N).map eO)), x10, x11, x12] = .ok .nx [some (iO b2), some (iO P), x2, some (iO 10), some (tnO L), some (iO w), some (.fz (.list ((cornersL P L).map eD))), some (.fz (eD c)), some (iO x), some (.fz (.list ((rg P L m c N).map eD))), x10, x11, x12] := by
      rw [ex_frz]
      simp only [List.getElem?_cons_zero, List.getElem?_cons_succ, List.set_cons_succ, List.set_cons_zero, er_lst, ers_e]
    have s3 : ex (run T n (k + 3)) n (.set 10 (.ix (.var 9) (.bin .mod (.var 0) (.bl1 .len (.var 9))))) [some (iO b2), some (iO P), x2, some (iO 10), some (tnO L), some (iO w), some (.fz (.list ((cornersL P L).map eD))), some (.fz (eD c)), some (iO x), some (.fz (.list ((rg P L m c N).map eD))), x10, x11, x12] = .ok .nx [some (iO b2), some (iO P), x2, some (iO 10), some (tnO L), some (iO w), some (.fz (.list ((cornersL P L).map eD))), some (.fz (eD c)), some (iO x), some (.fz (.list ((rg P L m c N).map eD))), some (.fz (eD d)), x11, x12] := by
      have z : eO d = .fz (eD d) := rfl
      rw [z] at itd
      generalize PyData.list ((rg P L m c N).map eD) = rd at *
      generalize PyData.list ((cornersL P L).map eD) = cd at *
      generalize eD c = ec at *
      generalize eD d = ed at *
      generalize tnO L = to at *
      simp [pl, qt, leN, bmN, itd]
    have s4 : ex (run T n (k + 3)) n (.set 0 (.bin .fdiv (.var 0) (.bl1 .len (.var 9)))) [some (iO b2), some (iO P), x2, some (iO 10), some (tnO L), some (iO w), some (.fz (.list ((cornersL P L).map eD))), some (.fz (eD c)), some (iO x), some (.fz (.list ((rg P L m c N).map eD))), some (.fz (eD d)), x11, x12] = .ok .nx [some (iO b3), some (iO P), x2, some (iO 10), some (tnO L), some (iO w), some (.fz (.list ((cornersL P L).map eD))), some (.fz (eD c)), some (iO x), some (.fz (.list ((rg P L m c N).map eD))), some (.fz (eD d)), x11, x12] := by
      generalize PyData.list ((rg P L m c N).map eD) = rd at *
      generalize PyData.list ((cornersL P L).map eD) = cd at *
      generalize eD c = ec at *
      generalize eD d = ed at *
      generalize tnO L = to at *
      simp [pl, qt, leN, cdN, hb3]
    have one : ∀ (L0 : TL) (e : Nat × Nat), e.1 < L0.length → (rowL L0 e.1).length < 1000 → e.2 < 1000 → exs (run T n (k + 3)) n b_law_grown_1 [some (iO b3), some (iO P), x2, some (iO 10), some (tnO L0), some (iO w), some (.fz (.list ((cornersL P L).map eD))), some (.fz (eD c)), some (iO x), some (.fz (.list ((rg P L m c N).map eD))), some (.fz (eD d)), some (iO e.1), some (iO e.2)] = .ok .nx [some (iO b3), some (iO P), x2, some (iO 10), some (tnO (insL L0 e.1 e.2 w)), some (iO w), some (.fz (.list ((cornersL P L).map eD))), some (.fz (eD c)), some (iO x), some (.fz (.list ((rg P L m c N).map eD))), some (.fz (eD d)), some (iO e.1), some (iO e.2)] := fun L0 e l1 l2 l3 => by
      have ins := ins_ok (F := (run T n (k + 3))) (bb := false) (e := [some (iO b3), some (iO P), x2, some (iO 10), some (tnO L0), some (iO w), some (.fz (.list ((cornersL P L).map eD))), some (.fz (eD c)), some (iO x), some (.fz (.list ((rg P L m c N).map eD))), some (.fz (eD d)), some (iO e.1), some (iO e.2)]) (L := L0) (p := e.1) (kk := e.2) (w := w) (pE := .var 11) (kE := .var 12) rfl rfl (by generalize eD c = ec at *; generalize eD d = ed at *; generalize tnO L0 = to at *; generalize PyData.list ((rg P L m c N).map eD) = rd at *; generalize PyData.list ((cornersL P L).map eD) = cd at *; simp) (by generalize eD c = ec at *; generalize eD d = ed at *; generalize tnO L0 = to at *; generalize PyData.list ((rg P L m c N).map eD) = rd at *; generalize PyData.list ((cornersL P L).map eD) = cd at *; simp) rfl rfl l1 l2 l3
      rw [b_law_grown_1, exs_cons, ex_expr, ins]
      rfl
    have sz2 : (rowL (insL L a.1 a.2 w) b.1).length < 1000 := by
      rcases row_in (L := insL L a.1 a.2 w) (p := b.1) with y | y
      · have := ins_sz (fun r hr => tv.sz r hr) _ y; omega
      · rw [y]; decide
    have s5 : ex (run T n (k + 3)) n (.forr (.tp (.nm 11) (.nm 12)) (.seq (.srt (.lst (.cons (.var 7) (.cons (.var 10) .nil))) true)) b_law_grown_1) [some (iO b3), some (iO P), x2, some (iO 10), some (tnO L), some (iO w), some (.fz (.list ((cornersL P L).map eD))), some (.fz (eD c)), some (iO x), some (.fz (.list ((rg P L m c N).map eD))), some (.fz (eD d)), x11, x12] = .ok .nx [some (iO b3), some (iO P), x2, some (iO 10), some (tnO (insL (insL L a.1 a.2 w) b.1 b.2 w)), some (iO w), some (.fz (.list ((cornersL P L).map eD))), some (.fz (eD c)), some (iO x), some (.fz (.list ((rg P L m c N).map eD))), some (.fz (eD d)), some (iO b.1), some (iO b.2)] := by
      have sgt : ∀ (e : Nat × Nat) (u v : Option O) (L0 : TL), setTg (.tp (.nm 11) (.nm 12)) (eD e) [some (iO b3), some (iO P), x2, some (iO 10), some (tnO L0), some (iO w), some (.fz (.list ((cornersL P L).map eD))), some (.fz (eD c)), some (iO x), some (.fz (.list ((rg P L m c N).map eD))), some (.fz (eD d)), u, v] = some [some (iO b3), some (iO P), x2, some (iO 10), some (tnO L0), some (iO w), some (.fz (.list ((cornersL P L).map eD))), some (.fz (eD c)), some (iO x), some (.fz (.list ((rg P L m c N).map eD))), some (.fz (eD d)), some (iO e.1), some (iO e.2)] := fun e u v L0 => rfl
      have itv : evIt (run T n (k + 3)) (.seq (.srt (.lst (.cons (.var 7) (.cons (.var 10) .nil))) true)) [some (iO b3), some (iO P), x2, some (iO 10), some (tnO L), some (iO w), some (.fz (.list ((cornersL P L).map eD))), some (.fz (eD c)), some (iO x), some (.fz (.list ((rg P L m c N).map eD))), some (.fz (eD d)), x11, x12] = .ok [eD a, eD b] [some (iO b3), some (iO P), x2, some (iO 10), some (tnO L), some (iO w), some (.fz (.list ((cornersL P L).map eD))), some (.fz (eD c)), some (iO x), some (.fz (.list ((rg P L m c N).map eD))), some (.fz (eD d)), x11, x12] := by
        have e1 : eO c = .fz (eD c) := rfl
        have e2 : eO d = .fz (eD d) := rfl
        rw [e1, e2] at so
        have e3 : er (.lst [eO a, eO b]) = .list [eD a, eD b] := rfl
        generalize PyData.list ((rg P L m c N).map eD) = rd at *
        generalize PyData.list ((cornersL P L).map eD) = cd at *
        generalize eD c = ec at *
        generalize eD d = ed at *
        generalize tnO L = to at *
        generalize O.lst [eO a, eO b] = ol at *
        simp [pl, qt, strRoom, hs, so, e3]
      rw [ex_forr, itv, bind_ok_, fo_cons, sgt a x11 x12 L]
      show aft _ (exs (run T n (k + 3)) n b_law_grown_1 [some (iO b3), some (iO P), x2, some (iO 10), some (tnO L), some (iO w), some (.fz (.list ((cornersL P L).map eD))), some (.fz (eD c)), some (iO x), some (.fz (.list ((rg P L m c N).map eD))), some (.fz (eD d)), some (iO a.1), some (iO a.2)]) = _
      rw [one L a a1 (by have := szr a.1; omega) a2, aft_nx, fo_cons, sgt b (some (iO a.1)) (some (iO a.2)) (insL L a.1 a.2 w)]
      show aft _ (exs (run T n (k + 3)) n b_law_grown_1 [some (iO b3), some (iO P), x2, some (iO 10), some (tnO (insL L a.1 a.2 w)), some (iO w), some (.fz (.list ((cornersL P L).map eD))), some (.fz (eD c)), some (iO x), some (.fz (.list ((rg P L m c N).map eD))), some (.fz (eD d)), some (iO b.1), some (iO b.2)]) = _
      rw [one (insL L a.1 a.2 w) b (by rw [insL_len]; exact b1') sz2 b2', aft_nx]
      rfl
    refine ⟨insL (insL L a.1 a.2 w) b.1 b.2 w, b3, some (.fz (.list ((cornersL P L).map eD))), some (.fz (eD c)), some (iO x), some (.fz (.list ((rg P L m c N).map eD))), some (.fz (eD d)), some (iO b.1), some (iO b.2), tv.tie a1 b1', ?_⟩
    have it : ex (run T n (k + 3)) n (.ite (.band (.cmp .eq (.var 8) (.int 0)) (.cmp .lt (.bl1 .len (.var 4)) (.bin .add (.var 1) (.var 3)))) (.cons (.expr (.mut .insert (.ix (.nm 4) (.ix (.var 7) (.int 0))) (.cons (.ix (.var 7) (.int 1)) (.cons (.var 5) .nil)))) (.cons (.expr (.mut .append (.nm 4) (.cons (.lst (.cons (.var 5) .nil)) .nil))) .nil)) (.cons (.set 9 (.call "_law_region" (.cons (.borA 4) (.var 4) (.cons .val (.var 1) (.cons .val (.frz (.call "_law_mates" (.cons .bor (.var 4) .nil))) (.cons .val (.var 7) .nil)))))) (.cons (.frz 9) (.cons (.set 10 (.ix (.var 9) (.bin .mod (.var 0) (.bl1 .len (.var 9))))) (.cons (.set 0 (.bin .fdiv (.var 0) (.bl1 .len (.var 9)))) (.cons (.forr (.tp (.nm 11) (.nm 12)) (.seq (.srt (.lst (.cons (.var 7) (.cons (.var 10) .nil))) true)) b_law_grown_1) .nil)))))) [some (iO b2), some (iO P), x2, some (iO 10), some (tnO L), some (iO w), some (.fz (.list ((cornersL P L).map eD))), some (.fz (eD c)), some (iO x), x9, x10, x11, x12] = exs (run T n (k + 3)) n (.cons (.set 9 (.call "_law_region" (.cons (.borA 4) (.var 4) (.cons .val (.var 1) (.cons .val (.frz (.call "_law_mates" (.cons .bor (.var 4) .nil))) (.cons .val (.var 7) .nil)))))) (.cons (.frz 9) (.cons (.set 10 (.ix (.var 9) (.bin .mod (.var 0) (.bl1 .len (.var 9))))) (.cons (.set 0 (.bin .fdiv (.var 0) (.bl1 .len (.var 9)))) (.cons (.forr (.tp (.nm 11) (.nm 12)) (.seq (.srt (.lst (.cons (.var 7) (.cons (.var 10) .nil))) true)) b_law_grown_1) .nil))))) [some (iO b2), some (iO P), x2, some (iO 10), some (tnO L), some (iO w), some (.fz (.list ((cornersL P L).map eD))), some (.fz (eD c)), some (iO x), x9, x10, x11, x12] := by
      rw [ex_ite]
      generalize eD c = ec at *
      generalize tnO L = to at *
      generalize PyData.list ((cornersL P L).map eD) = cd at *
      by_cases q1 : x = 0
      · have q2 : ¬ (L.length : Int) < (P : Int) + 10 := fun z => q' ⟨q1, z⟩
        simp [pl, qt, q1, lt, q2, -exs_cons, -ex_expr]
      · simp [pl, qt, q1, lt, -exs_cons, -ex_expr]
    rw [b_law_grown_2, exs_cons, t1, thn2_nx, exs_cons, t2, thn2_nx, exs_cons, t3, thn2_nx, exs_cons, t4, thn2_nx, exs_cons, t5, thn2_nx, exs_cons, t6, thn2_nx, exs_cons, it, exs_cons, s1, thn2_nx, exs_cons, s2, thn2_nx, exs_cons, s3, thn2_nx, exs_cons, s4, thn2_nx, exs_cons, s5, thn2_nx, exs_nil, thn2_nx, exs_nil]
theorem r_grown {P w : Nat} {big : Int} (hn : 1000 ≤ n) (h1 : 1 ≤ P) (h6 : P ≤ 6) (hw : w ≤ 15) : ∃ (L : TL) (big' : Int) (ps : Rim.Env), Tv P w L ∧ run T n (k + 4) "_law_grown" [iO big, iO P, iO w, iO 10] = .ok (.tup [tnO L, iO big']) ps := by
  rw [show ("_law_grown" : Str) = d_law_grown.name from rfl, run_b nodupT (by simp [T]) rfl]
  have hs : sizeLine = 16777216 := by decide
  have kP : rngOk (P : Int) = true := Nat.ble_eq_true_of_le (by omega)
  have kw : rngOk (w : Int) = true := Nat.ble_eq_true_of_le (by omega)
  have cc : co (run T n (k + 3)) (.nm 11) [11] .no (.lst .nil) (rngD 0 P) [some (iO big), some (iO P), some (iO w), some (iO 10), none, none, none, none, none, none, none, none, none] = .ok ((List.replicate P []).map rwI) [some (iO big), some (iO P), some (iO w), some (iO 10), none, none, none, none, none, none, none, none, none] := by
    rw [rngD_nat]
    have z := co_mapA (F := (run T n (k + 3))) (enc := natD) (g := fun _ : Nat => rwI []) (v := 11) (elt := .lst .nil) (e := [some (iO big), some (iO P), some (iO w), some (iO 10), none, none, none, none, none, none, none, none, none]) rfl (xs := List.range P) (fun j hj => by
      have e0 : rwI [] = .lst [] := rfl
      simp [strRoom, hs, e0])
    rw [z]
    congr 1
    apply List.ext_getElem
    · simp
    · intro i h1 h2
      simp
  obtain ⟨e1, g1, L, big', y6, y7, y8, y9, y10, y11, y12, x5, tv, rfl⟩ := fo_inv (F := (run T n (k + 3))) (n := n) (tg := .nm 5) (b := b_law_grown_2) (ds := rngD 0 w) (k := 0) (e := [some (iO big), some (iO P), some (iO w), some (iO 10), some (tnO (List.replicate P [])), none, none, none, none, none, none, none, none])
    (fun i e => ∃ (L : TL) (big' : Int) (y6 y7 y8 y9 y10 y11 y12 x5 : Option O), Tv P i L ∧ e = [some (iO big'), some (iO P), some (iO w), some (iO 10), some (tnO L), x5, y6, y7, y8, y9, y10, y11, y12])
    ⟨List.replicate P [], big, none, none, none, none, none, none, none, none, Tv.start h1 h6, rfl⟩ (fun i e d hd hp => by
      obtain ⟨hi, rfl⟩ := rngD_get hd
      rw [Nat.zero_add] at hp ⊢
      obtain ⟨L, big', y6, y7, y8, y9, y10, y11, y12, x5, tv, rfl⟩ := hp
      rw [Int.zero_add]
      obtain ⟨L', b2, z6, z7, z8, z9, z10, z11, z12, tv', g⟩ := grow_turn (n := n) (k := k) (big := big') (x2 := some (iO w)) (x6 := y6) (x7 := y7) (x8 := y8) (x9 := y9) (x10 := y10) (x11 := y11) (x12 := y12) hn tv (by omega)
      exact ⟨_, _, rfl, .inl g, L', b2, z6, z7, z8, z9, z10, z11, z12, some (iO i), tv', rfl⟩)
  rw [Nat.zero_add, rngD_len] at tv
  have mt : mkTup [tnO L, iO big'] = .tup [tnO L, iO big'] := rfl
  have lP : ((List.replicate P []).map rwI).length ≤ 16777216 := by rw [List.length_map, List.length_replicate]; omega
  have e0 : O.lst ((List.replicate P []).map rwI) = tnO (List.replicate P []) := rfl
  generalize (List.replicate P []).map rwI = rr at *
  generalize tnO (List.replicate P []) = t0 at *
  generalize htl : tnO L = to at *
  generalize hq : runB _ _ _ _ _ _ = q
  simp [runB, d_law_grown, b_law_grown, pl, qt, kP, kw, cc, lP, e0, g1, mt, strRoom, hs, asSs, asS, tgS, wipeE] at hq
  exact ⟨L, big', _, tv, by rw [htl]; exact hq.symm⟩
end
end K11
namespace K11
open PySem PySem.Spec PyProof.Rows L2 Rim Lp Gn
section
variable {n k : Nat}
/-! ### lists begun elsewhere -/
def tnP (P i : Nat) (L : TL) : List O := (numb L).map fun q => if P ≤ q.1 ∧ q.1 < P + i then .fz (rwN q.2) else rwI q.2
theorem tnP_get {P i q : Nat} {L : TL} : (tnP P i L)[q]? = (L[q]?).map fun r => if P ≤ q ∧ q < P + i then .fz (rwN r) else rwI r := by
  unfold tnP numb
  rw [List.getElem?_map, List.getElem?_map, List.getElem?_zipIdx, Option.map_map, Option.map_map, Nat.zero_add]
  rfl
theorem tnP_len {P i : Nat} {L : TL} : (tnP P i L).length = L.length := by
  unfold tnP
  rw [List.length_map, numb_len]
theorem tnP_zero {P : Nat} {L : TL} : .lst (tnP P 0 L) = tnO L := by
  unfold tnO
  congr 1
  refine List.ext_getElem? fun q => ?_
  rw [tnP_get, List.getElem?_map]
  congr 1
  funext r
  rw [if_neg (by omega)]
theorem tnP_set {P i : Nat} {L : TL} {r : List Nat} (h : P + i < L.length) : (tnP P i L).set (P + i) (.fz (rwN r)) = tnP P (i + 1) (L.set (P + i) r) := by
  refine List.ext_getElem? fun q => ?_
  rw [List.getElem?_set, tnP_len, tnP_get, tnP_get, get_set h]
  by_cases e : P + i = q
  · subst e
    rw [if_pos rfl, if_pos h, if_pos rfl, Option.map_some, if_pos (by omega)]
  · rw [if_neg e, if_neg e]
    congr 1
    funext r
    by_cases z : P ≤ q ∧ q < P + i
    · rw [if_pos z, if_pos (by omega)]
    · rw [if_neg z, if_neg (by omega)]
theorem ers_tnP {P i : Nat} {L : TL} : ers (tnP P i L) = L.map rwN := by
  unfold tnP
  rw [ers_map2]
  have e : L.map rwN = (numb L).map fun q => rwN q.2 := by
    unfold numb
    rw [List.map_map]
    have : (L.zipIdx.map ((fun q : Nat × List Nat => rwN q.2) ∘ fun q : List Nat × Nat => (q.2, q.1))) = (L.zipIdx.map Prod.fst).map rwN := by rw [List.map_map]; rfl
    rw [this, List.zipIdx_map_fst]
  rw [e]
  refine List.map_congr_left fun q _ => ?_
  split
  · exact er_fz
  · exact er_rwI
theorem begun_turn {P w i : Nat} {L : TL} {big : Int} {x4 : Option O} (tv : Tv P w L) (hw : w ≤ 15) (hi : P + i < L.length) : ∃ (b1 : Int) (tt : Nat), exs (run T n k) n b_law_begun_1 [some (.lst (tnP P i L)), some (iO P), some (iO big), some (iO (P + i : Nat)), x4] = .ok .nx [some (.lst (tnP P (i + 1) (L.set (P + i) ((rowL L (P + i)).drop tt ++ (rowL L (P + i)).take tt)))), some (iO P), some (iO b1), some (iO (P + i : Nat)), some (iO tt)] := by
  have hs : sizeLine = 16777216 := by decide
  have hr := rowL_get hi
  have ne := tv.ne _ _ (by omega) hr
  have sz := tv.sz _ (List.mem_of_getElem? hr)
  generalize hrr : rowL L (P + i) = r at *
  have r0 : (0 : Int) < (r.length : Int) := by
    have := List.length_pos_iff.mpr ne
    omega
  obtain ⟨tt, ht, htl⟩ : ∃ tt : Nat, big % (r.length : Int) = tt ∧ tt < r.length := ⟨(big % (r.length : Int)).toNat, by have := Int.emod_nonneg big (show (r.length : Int) ≠ 0 by omega); omega, by have := Int.emod_lt_of_pos big r0; have := Int.emod_nonneg big (show (r.length : Int) ≠ 0 by omega); omega⟩
  obtain ⟨b1, hb⟩ : ∃ b1, big / (r.length : Int) = b1 := ⟨_, rfl⟩
  refine ⟨b1, tt, ?_⟩
  have cd : cdivB (r.length : Int) = true := cdivB_lit r0 (lt_pow (a := 9) (by omega) (by decide))
  have bm : binO .mod (iO big) (iO r.length) = some (iO tt) := by
    simp only [binO]
    rw [if_pos (decide_eq_true r0), ht]
  have it : itemO (.lst (tnP P i L)) (.int ((P + i : Nat) : Int)) = some (rwI r) := by
    have a : atI (tnP P i L) ((P + i : Nat) : Int) = some (rwI r) := by
      rw [atI_pos (by omega), Int.toNat_natCast, tnP_get, hr, Option.map_some, if_neg (by omega)]
    show (match atI (tnP P i L) ((P + i : Nat) : Int) with | some o => some o | none => _) = _
    rw [a]
  have ln : bl1O .len (rwI r) = some (iO r.length) := by
    show some (O.fz (.int (((r.map fun (w : Nat) => iO (w : Int)).length : Nat) : Int))) = _
    rw [List.length_map]
  have lo : Rim.listOf (rwI r) = some (r.map natD) := by
    have : rwI r = .lst ((r.map natD).map .fz) := by
      unfold rwI
      rw [List.map_map]
      rfl
    rw [this]
    exact fzs_all
  have lz : ((r.map natD).length) = r.length := List.length_map ..
  have c1 := cutL_lo (xs := r.map natD) (i := (tt : Int)) (a := tt) rfl (by omega)
  have c2 := cutL_hi (xs := r.map natD) (i := (tt : Int)) (a := tt) rfl (by omega)
  have sl1 : sliceO (rwI r) (some (tt : Int)) none = some (.lst (((r.drop tt).map natD).map .fz)) := by
    show (match Rim.listOf (rwI r) with | some ds => some (O.lst ((cutD ds (some (tt : Int)) none).map .fz)) | none => none) = _
    rw [lo]
    simp only [c1, List.map_drop]
  have sl2 : sliceO (rwI r) none (some (tt : Int)) = some (.lst (((r.take tt).map natD).map .fz)) := by
    show (match Rim.listOf (rwI r) with | some ds => some (O.lst ((cutD ds none (some (tt : Int))).map .fz)) | none => none) = _
    rw [lo]
    simp only [c2, List.map_take]
  have ad : binO .add (.lst (((r.drop tt).map natD).map .fz)) (.lst (((r.take tt).map natD).map .fz)) = some (.lst (((r.drop tt ++ r.take tt).map natD).map .fz)) := by
    have f1 : ∀ xs : List PyData, Rim.listOf (.lst (xs.map .fz)) = some xs := fun xs => fzs_all
    have sr : strRoom (((r.drop tt).map natD).length + ((r.take tt).map natD).length) = true := Nat.ble_eq_true_of_le (room_of (by
      simp only [List.length_map, List.length_drop, List.length_take]
      omega))
    simp only [binO, f1]
    rw [if_pos sr, ← List.map_append]
  have erz : er (.lst (((r.drop tt ++ r.take tt).map natD).map .fz)) = rwN (r.drop tt ++ r.take tt) := by
    rw [er_lst, ers_map]
    rfl
  have t1 : ex (run T n k) n (.set 4 (.bin .mod (.var 2) (.bl1 .len (.ix (.var 0) (.var 3))))) [some (.lst (tnP P i L)), some (iO P), some (iO big), some (iO (P + i : Nat)), x4] = .ok .nx [some (.lst (tnP P i L)), some (iO P), some (iO big), some (iO (P + i : Nat)), some (iO tt)] := by
    generalize ((P + i : Nat) : Int) = pi at *
    generalize tnP P i L = to at *
    generalize rwI r = rr at *
    simp [pl, qt, it, ln, bm]
  have t2 : ex (run T n k) n (.set 2 (.bin .fdiv (.var 2) (.bl1 .len (.ix (.var 0) (.var 3))))) [some (.lst (tnP P i L)), some (iO P), some (iO big), some (iO (P + i : Nat)), some (iO tt)] = .ok .nx [some (.lst (tnP P i L)), some (iO P), some (iO b1), some (iO (P + i : Nat)), some (iO tt)] := by
    generalize ((P + i : Nat) : Int) = pi at *
    generalize tnP P i L = to at *
    generalize rwI r = rr at *
    simp [pl, qt, it, ln, cd, hb]
  have t3 : ex (run T n k) n (.put (.nm 0) (.var 3) (.frz (.bin .add (.sl (.ix (.var 0) (.var 3)) (.so (.var 4)) .no) (.sl (.ix (.var 0) (.var 3)) .no (.so (.var 4)))))) [some (.lst (tnP P i L)), some (iO P), some (iO b1), some (iO (P + i : Nat)), some (iO tt)] = .ok .nx [some (.lst (tnP P (i + 1) (L.set (P + i) (r.drop tt ++ r.take tt)))), some (iO P), some (iO b1), some (iO (P + i : Nat)), some (iO tt)] := by
    rw [← tnP_set hi]
    have ix : ixN (tnP P i L).length ((P + i : Nat) : Int) = some (P + i) := by
      unfold ixN
      rw [tnP_len, if_pos (by omega), if_pos (by omega), Int.toNat_natCast]
    have lp : P + i < (tnP P i L).length := by rw [tnP_len]; exact hi
    generalize hpi : ((P + i : Nat) : Int) = pi at *
    generalize tnP P i L = to at *
    generalize rwN (r.drop tt ++ r.take tt) = rn at *
    generalize ((r.drop tt ++ r.take tt).map natD).map O.fz = oA at *
    generalize ((r.drop tt).map natD).map O.fz = oB at *
    generalize ((r.take tt).map natD).map O.fz = oC at *
    generalize rwI r = rr at *
    simp [pl, qt, qtO, it, sl1, sl2, ad, erz, ix, lp]
  rw [b_law_begun_1, exs_cons, t1, thn2_nx, exs_cons, t2, thn2_nx, exs_cons, t3, thn2_nx, exs_nil]
theorem r_begun {P w : Nat} {L : TL} {big : Int} (tv : Tv P w L) (hw : w ≤ 15) : ∃ (L' : TL) (os : List O) (ps : Rim.Env), Tv P w L' ∧ L'.length = L.length ∧ ers os = L'.map rwN ∧ ps[0]? = some none ∧ run T n (k + 1) "_law_begun" [tnO L, iO P, iO big] = .ok (.lst os) ps := by
  rw [show ("_law_begun" : Str) = d_law_begun.name from rfl, run_b nodupT (by simp [T]) rfl]
  have hL : L.length ≤ 16 := by have := tv.hl; have := tv.p6; omega
  have kP : rngOk (P : Int) = true := Nat.ble_eq_true_of_le (by have := tv.p6; omega)
  have kL : rngOk (L.length : Int) = true := Nat.ble_eq_true_of_le (by omega)
  have hlen : (rngD (P : Int) (L.length - P)).length = L.length - P := rngD_len
  obtain ⟨e1, g1, L', big', x3, x4, tv', ln', rfl⟩ := fo_inv (F := run T n k) (n := n) (tg := .nm 3) (b := b_law_begun_1) (ds := rngD (P : Int) (L.length - P)) (k := 0) (e := [some (tnO L), some (iO P), some (iO big), none, none])
    (fun i e => ∃ (L' : TL) (big' : Int) (x3 x4 : Option O), Tv P w L' ∧ L'.length = L.length ∧ e = [some (.lst (tnP P i L')), some (iO P), some (iO big'), x3, x4])
    ⟨L, big, none, none, tv, rfl, by rw [tnP_zero]⟩ (fun i e d hd hp => by
      obtain ⟨hi, rfl⟩ := rngD_get hd
      rw [Nat.zero_add] at hp ⊢
      obtain ⟨L', big', x3, x4, tv', ln', rfl⟩ := hp
      have hi' : P + i < L'.length := by have := tv.pl; omega
      obtain ⟨b1, tt, g⟩ := begun_turn (n := n) (k := k) (big := big') (x4 := x4) tv' hw hi'
      refine ⟨_, _, rfl, .inl ?_, L'.set (P + i) ((rowL L' (P + i)).drop tt ++ (rowL L' (P + i)).take tt), b1, some (iO (P + i : Nat)), some (iO tt), tv'.turn hi', by rw [List.length_set, ln'], rfl⟩
      have e : (P : Int) + (i : Int) = ((P + i : Nat) : Int) := by omega
      rw [e]
      exact g)
  refine ⟨L', tnP P (0 + (rngD (P : Int) (L.length - P)).length) L', [none, some (iO P), none], tv', ln', ers_tnP, rfl, ?_⟩
  have lt := len_tO (L := L)
  generalize tnP P (0 + (rngD (P : Int) (L.length - P)).length) L' = oo at *
  generalize tnO L = to at *
  generalize hq : runB _ _ _ _ _ _ = q
  simp [runB, d_law_begun, b_law_begun, pl, qt, kP, kL, lt, g1, asSs, asS, tgS, wipeE] at hq
  exact hq.symm
/-! ### rows in any order -/
def natO (i : Nat) : O := iO (i : Int)
theorem at_str {xs : List Str} {i : Nat} (h : i < xs.length) : itemO (.fz (lsD xs)) (.int (i : Int)) = some (sO (xs.getD i "")) := by
  have a : atI (xs.map PyData.str) (i : Int) = some (.str (xs.getD i "")) := by
    rw [atI_pos (by omega), Int.toNat_natCast, List.getElem?_map, List.getD_eq_getElem?_getD, List.getElem?_eq_getElem h]
    rfl
  show (match (atI (xs.map PyData.str) (i : Int)).map O.fz with | some o => some o | none => _) = _
  rw [a]
  rfl
theorem map_er {α β : Type} {f : α → β} : ∀ {xs : List α} {j : Nat}, (xs.map f).eraseIdx j = (xs.eraseIdx j).map f
  | [], _ => rfl
  | x :: xs, 0 => rfl
  | x :: xs, j + 1 => by
    rw [List.map_cons, List.eraseIdx_cons_succ, List.eraseIdx_cons_succ, List.map_cons, map_er]
theorem row_turn {P w : Nat} {L : TL} {Ns Ws : List Str} {ord done : List Nat} {big : Int} {x0 x1 x2 x4 x5 x11 : Option O} (tv : Tv P w L) (hw : w ≤ 15) (ln : Ns.length = L.length) (lw : Ws.length = w) (ho : ord ≠ []) (h1 : ∀ p ∈ ord, p < L.length) (l1 : ord.length ≤ 16) (l2 : done.length ≤ 16) :
    ∃ (b1 : Int) (j p : Nat), ord[j]? = some p ∧ exs (run T n (k + 4)) n b_law_net_by_1 [x0, x1, x2, some (iO big), x4, x5, some (.fz (tnD L)), some (.fz (lsD Ns)), some (.fz (lsD Ws)), some (.lst (ord.map natO)), some (.lst ((done.map (rowOf Ns Ws L)).map rwO)), x11, none, none, none] = .ok .nx [x0, x1, x2, some (iO b1), x4, x5, some (.fz (tnD L)), some (.fz (lsD Ns)), some (.fz (lsD Ws)), some (.lst ((ord.eraseIdx j).map natO)), some (.lst (((done ++ [p]).map (rowOf Ns Ws L)).map rwO)), some (iO p), none, none, none] := by
  have hs : sizeLine = 16777216 := by decide
  have o0 : (0 : Int) < (ord.length : Int) := by
    have := List.length_pos_iff.mpr ho
    omega
  obtain ⟨j, hj, hj2⟩ : ∃ j : Nat, big % (ord.length : Int) = j ∧ j < ord.length := ⟨(big % (ord.length : Int)).toNat, by have := Int.emod_nonneg big (show (ord.length : Int) ≠ 0 by omega); omega, by have := Int.emod_lt_of_pos big o0; have := Int.emod_nonneg big (show (ord.length : Int) ≠ 0 by omega); omega⟩
  obtain ⟨p, hp⟩ : ∃ p, ord[j]? = some p := ⟨_, List.getElem?_eq_getElem hj2⟩
  have pL := h1 p (List.mem_of_getElem? hp)
  have le : (ord.eraseIdx j).length + 1 = ord.length := by rw [List.length_eraseIdx_of_lt hj2]; omega
  obtain ⟨b1, hb⟩ : ∃ b1, big / (((ord.eraseIdx j).length : Int) + 1) = b1 := ⟨_, rfl⟩
  refine ⟨b1, j, p, hp, ?_⟩
  have bm : binO .mod (iO big) (iO ord.length) = some (iO j) := by
    simp only [binO]
    rw [if_pos (decide_eq_true o0), hj]
  have cd : cdivB (((ord.eraseIdx j).length : Int) + 1) = true := cdivB_lit (by omega) (lt_pow (a := 9) (by omega) (by decide))
  have po := pop_at (os := ord.map natO) (j := j) (x := natO p) (by rw [List.getElem?_map, hp]; rfl) (by rw [List.length_map]; omega)
  have ee : (ord.map natO).eraseIdx j = (ord.eraseIdx j).map natO := by exact map_er
  rw [ee] at po
  have len1 : bl1O .len (.lst (ord.map natO)) = some (iO ord.length) := by
    show some (O.fz (.int (((ord.map natO).length : Nat) : Int))) = _
    rw [List.length_map]
  have len2 : bl1O .len (.lst ((ord.eraseIdx j).map natO)) = some (iO (ord.eraseIdx j).length) := by
    show some (O.fz (.int ((((ord.eraseIdx j).map natO).length : Nat) : Int))) = _
    rw [List.length_map]
  have aa : evEs (run T n (k + 4)) (.cons (.bin .mod (.var 3) (.bl1 .len (.var 9))) .nil) [x0, x1, x2, some (iO big), x4, x5, some (.fz (tnD L)), some (.fz (lsD Ns)), some (.fz (lsD Ws)), some (.lst (ord.map natO)), some (.lst ((done.map (rowOf Ns Ws L)).map rwO)), x11, none, none, none] = .ok [iO j] [x0, x1, x2, some (iO big), x4, x5, some (.fz (tnD L)), some (.fz (lsD Ns)), some (.fz (lsD Ws)), some (.lst (ord.map natO)), some (.lst ((done.map (rowOf Ns Ws L)).map rwO)), x11, none, none, none] := by
    generalize ord.map natO = oo at *
    generalize (done.map (rowOf Ns Ws L)).map rwO = rr at *
    generalize tnD L = tn at *
    generalize lsD Ns = nn at *
    generalize lsD Ws = ww at *
    simp [pl, qt, len1, bm]
  have mm := mut_nm (w := false) (e := [x0, x1, x2, some (iO big), x4, x5, some (.fz (tnD L)), some (.fz (lsD Ns)), some (.fz (lsD Ws)), some (.lst (ord.map natO)), some (.lst ((done.map (rowOf Ns Ws L)).map rwO)), x11, none, none, none]) (i := 9) (m := .popAt) rfl (by rfl) aa po
  have t1 : ex (run T n (k + 4)) n (.set 11 (.mut .popAt (.nm 9) (.cons (.bin .mod (.var 3) (.bl1 .len (.var 9))) .nil))) [x0, x1, x2, some (iO big), x4, x5, some (.fz (tnD L)), some (.fz (lsD Ns)), some (.fz (lsD Ws)), some (.lst (ord.map natO)), some (.lst ((done.map (rowOf Ns Ws L)).map rwO)), x11, none, none, none] = .ok .nx [x0, x1, x2, some (iO big), x4, x5, some (.fz (tnD L)), some (.fz (lsD Ns)), some (.fz (lsD Ws)), some (.lst ((ord.eraseIdx j).map natO)), some (.lst ((done.map (rowOf Ns Ws L)).map rwO)), some (iO p), none, none, none] := by
    rw [ex_set, mm]
    rfl
  have t2 : ex (run T n (k + 4)) n (.set 3 (.bin .fdiv (.var 3) (.bin .add (.bl1 .len (.var 9)) (.int 1)))) [x0, x1, x2, some (iO big), x4, x5, some (.fz (tnD L)), some (.fz (lsD Ns)), some (.fz (lsD Ws)), some (.lst ((ord.eraseIdx j).map natO)), some (.lst ((done.map (rowOf Ns Ws L)).map rwO)), some (iO p), none, none, none] = .ok .nx [x0, x1, x2, some (iO b1), x4, x5, some (.fz (tnD L)), some (.fz (lsD Ns)), some (.fz (lsD Ws)), some (.lst ((ord.eraseIdx j).map natO)), some (.lst ((done.map (rowOf Ns Ws L)).map rwO)), some (iO p), none, none, none] := by
    generalize (ord.eraseIdx j).map natO = oo at *
    generalize (done.map (rowOf Ns Ws L)).map rwO = rr at *
    generalize tnD L = tn at *
    generalize lsD Ns = nn at *
    generalize lsD Ws = ww at *
    simp [pl, qt, len2, cd, hb]
  have i1 := item_tn (rowL_get pL)
  have i2 := at_str (xs := Ns) (i := p) (by omega)
  have cc : co (run T n (k + 4)) (.nm 13) [13] .no (.ix (.var 8) (.var 13)) ((rowL L p).map natD) [x0, x1, x2, some (iO b1), x4, x5, some (.fz (tnD L)), some (.fz (lsD Ns)), some (.fz (lsD Ws)), some (.lst ((ord.eraseIdx j).map natO)), some (.lst ((done.map (rowOf Ns Ws L)).map rwO)), some (iO p), none, none, none] = .ok ((rowOf Ns Ws L p).2.map sO) [x0, x1, x2, some (iO b1), x4, x5, some (.fz (tnD L)), some (.fz (lsD Ns)), some (.fz (lsD Ws)), some (.lst ((ord.eraseIdx j).map natO)), some (.lst ((done.map (rowOf Ns Ws L)).map rwO)), some (iO p), none, none, none] := by
    have z := co_mapA (F := (run T n (k + 4))) (enc := natD) (g := fun i : Nat => sO (Ws.getD i "")) (v := 13) (elt := .ix (.var 8) (.var 13)) (e := [x0, x1, x2, some (iO b1), x4, x5, some (.fz (tnD L)), some (.fz (lsD Ns)), some (.fz (lsD Ws)), some (.lst ((ord.eraseIdx j).map natO)), some (.lst ((done.map (rowOf Ns Ws L)).map rwO)), some (iO p), none, none, none]) rfl (xs := rowL L p) (fun i hi => by
      have i3 := at_str (xs := Ws) (i := i) (by rw [lw]; exact wires_lt tv hi)
      generalize (ord.eraseIdx j).map natO = oo at *
      generalize (done.map (rowOf Ns Ws L)).map rwO = rr at *
      generalize tnD L = tn at *
      generalize lsD Ns = nn at *
      generalize lsD Ws = ww at *
      simp [pl, qt, natD, i3])
    have e0 : (rowOf Ns Ws L p).2.map sO = (rowL L p).map fun i => sO (Ws.getD i "") := by
      unfold Gn.rowOf
      rw [List.map_map]
      rfl
    rw [z, e0]
  have t3 : ex (run T n (k + 4)) n (.expr (.mutA .append 10 (.cons (.frz (.tup (.cons (.ix (.var 7) (.var 11)) (.cons (.comp (.ix (.var 8) (.var 13)) (.nm 13) (.seq (.ix (.var 6) (.var 11))) .no [13]) .nil)))) .nil))) [x0, x1, x2, some (iO b1), x4, x5, some (.fz (tnD L)), some (.fz (lsD Ns)), some (.fz (lsD Ws)), some (.lst ((ord.eraseIdx j).map natO)), some (.lst ((done.map (rowOf Ns Ws L)).map rwO)), some (iO p), none, none, none] = .ok .nx [x0, x1, x2, some (iO b1), x4, x5, some (.fz (tnD L)), some (.fz (lsD Ns)), some (.fz (lsD Ws)), some (.lst ((ord.eraseIdx j).map natO)), some (.lst (((done ++ [p]).map (rowOf Ns Ws L)).map rwO)), some (iO p), none, none, none] := by
    have e1 : ((done ++ [p]).map (rowOf Ns Ws L)).map rwO = (done.map (rowOf Ns Ws L)).map rwO ++ [rwO (rowOf Ns Ws L p)] := by
      rw [List.map_append, List.map_append]
      rfl
    rw [e1]
    have ll : ((rowOf Ns Ws L p).2.map sO).length ≤ 16777216 := by
      unfold Gn.rowOf
      rw [List.length_map, List.length_map]
      have := tv.sz _ (List.mem_of_getElem? (rowL_get pL))
      omega
    have l3 : ((done.map (rowOf Ns Ws L)).map rwO).length < 16777216 := by rw [List.length_map, List.length_map]; omega
    have er1 : er (mkTup [sO (Ns.getD p ""), .lst ((rowOf Ns Ws L p).2.map sO)]) = rwD (rowOf Ns Ws L p) := by
      have mt : mkTup [sO (Ns.getD p ""), .lst ((rowOf Ns Ws L p).2.map sO)] = .tup [sO (Ns.getD p ""), .lst ((rowOf Ns Ws L p).2.map sO)] := rfl
      rw [mt, er_tup, ers_cons, ers_cons, ers_nil, er_fz, er_lst, ers_ls]
      rfl
    have er2 : rwO (rowOf Ns Ws L p) = .fz (rwD (rowOf Ns Ws L p)) := rfl
    rw [er2]
    have e4 : er (.fz (rwN (rowL L p))) = .list ((rowL L p).map natD) := rfl
    have mt0 : mkTup [sO (Ns.getD p ""), .lst ((rowOf Ns Ws L p).2.map sO)] = .tup [sO (Ns.getD p ""), .lst ((rowOf Ns Ws L p).2.map sO)] := rfl
    rw [mt0] at er1
    generalize rwD (rowOf Ns Ws L p) = rd at *
    generalize (rowOf Ns Ws L p).2.map sO = ro at *
    generalize (ord.eraseIdx j).map natO = oo at *
    generalize (done.map (rowOf Ns Ws L)).map rwO = rr at *
    generalize tnD L = tn at *
    generalize lsD Ns = nn at *
    generalize lsD Ws = ww at *
    generalize (rowL L p).map natD = rl at *
    generalize rwN (rowL L p) = rnn at *
    generalize Ns.getD p "" = nmp at *
    simp [pl, qt, qts, i1, i2, e4, cc, ll, l3, mt0, er1, strRoom, hs, wipeE]
  rw [b_law_net_by_1, exs_cons, t1, thn2_nx, exs_cons, t2, thn2_nx, exs_cons, t3, thn2_nx, exs_nil]
theorem ne_nats {ord : List Nat} : cmpO .ne (.lst (ord.map natO)) (.lst []) = some (!decide (ord = [])) := by
  have e : ers (ord.map natO) = ord.map natD := by
    rw [ers_map2]
    exact List.map_congr_left fun x _ => er_fz
  have sh : shp 64 (.list (ord.map natD)) = true := by
    rw [shp_list, List.all_eq_true]
    intro d hd
    obtain ⟨i, _, rfl⟩ := List.mem_map.mp hd
    rfl
  rw [cmp_lstL, e, cmp_lstR, c_neD sh (by decide)]
  cases ord <;> rfl
end
end K11
namespace K11
open PySem PySem.Spec PyProof.Rows L2 Rim Lp Gn
section
variable {n k : Nat}
theorem r_net {ns : List Int} {at0 most : Nat} (hn : 5000 ≤ n) (hm : most ≤ 15) : ∃ (P w : Nat) (L : TL) (Ns Ws : List Str) (ord : List Nat) (ws : List WT) (ps : Rim.Env), Net P w L Ns Ws ord ws ∧ run T n (k + 5) "_law_net_by" [scr ns, iO at0, iO most] = .ok (.tup [.lst ((Ns.take P).map sO), .fz (.list ((ord.map (rowOf Ns Ws L)).map rwD)), .lst (ws.map Gn.wO)]) ps := by
  rw [show ("_law_net_by" : Str) = d_law_net_by.name from rfl, run_b nodupT (by simp [T]) rfl]
  have hs : sizeLine = 16777216 := by decide
  obtain ⟨v, h0, v0, _⟩ := r_big (n := n) (k := k + 2) (ns := ns) (at0 := at0) (by omega)
  obtain ⟨v1, h1, v10, _⟩ := r_big (n := n) (k := k + 2) (ns := ns) (at0 := (at0 : Int) + 1) (by omega)
  obtain ⟨v2, h2, v20, _⟩ := r_big (n := n) (k := k + 2) (ns := ns) (at0 := (at0 : Int) + 2) (by omega)
  obtain ⟨v3, h3, v30, _⟩ := r_big (n := n) (k := k + 2) (ns := ns) (at0 := (at0 : Int) + 3) (by omega)
  have cd : ∀ m : Int, (m = 6 ∨ m = 48 ∨ m = 768) → cdivB m = true := fun m hm => by
    rcases hm with rfl | rfl | rfl <;> decide
  have c6 := cd 6 (by simp)
  have c48 := cd 48 (by simp)
  have c768 := cd 768 (by simp)
  have m1 : (0 : Int) < (most : Int) + 1 := by omega
  have cm : cdivB ((most : Int) + 1) = true := cdivB_lit m1 (lt_pow (a := 5) (by omega) (by decide))
  obtain ⟨P, hP⟩ : ∃ P : Nat, 1 + v % 6 = P := ⟨(1 + v % 6).toNat, by omega⟩
  have me1 := Int.emod_nonneg (v / 6) (show (most : Int) + 1 ≠ 0 by omega)
  have me2 := Int.emod_lt_of_pos (v / 6) m1
  obtain ⟨m0, hm0⟩ : ∃ m : Nat, v / 6 % ((most : Int) + 1) = m := ⟨(v / 6 % ((most : Int) + 1)).toNat, by omega⟩
  obtain ⟨w, hw, w15⟩ : ∃ w : Nat, (if v / 6 / ((most : Int) + 1) % 8 = 3 then v / 48 / ((most : Int) + 1) % 16 else (m0 : Int)) = w ∧ w ≤ 15 := ⟨(if v / 6 / ((most : Int) + 1) % 8 = 3 then v / 48 / ((most : Int) + 1) % 16 else (m0 : Int)).toNat, by split <;> omega, by split <;> omega⟩
  obtain ⟨bg, hbg⟩ : ∃ b, v / 768 / ((most : Int) + 1) = b := ⟨_, rfl⟩
  obtain ⟨L0, b1, ps1, tv0, gg⟩ := r_grown (n := n) (k := k) (big := bg) (P := P) (w := w) (by omega) (by omega) (by omega) w15
  have L16 : L0.length ≤ 16 := by have := tv0.hl; have := tv0.p6; omega
  obtain ⟨Ns, ps2, nn, gN⟩ := names_go (n := n) (k := k + 3) v10 L16
  obtain ⟨Ws, ps3, nw, gW⟩ := names_go (n := n) (k := k + 3) v20 (m := w) (by omega)
  obtain ⟨L, os, ps4, tv, lnL, eos, p40, gb⟩ := r_begun (n := n) (k := k + 3) (big := b1) tv0 w15
  have lN := len_tO (L := L0)
  have nn' : NmOk L.length Ns := by rw [lnL]; exact nn
  have eoD : er (.lst os) = tnD L := by
    rw [er_lst, eos]
    rfl
  have t0 : ex (run T n (k + 4)) n (.set 3 (.call "_law_big" (.cons .val (.var 0) (.cons .val (.var 1) .nil)))) [some (scr ns), some (iO at0), some (iO most), none, none, none, none, none, none, none, none, none, none, none, none] = .ok .nx [some (scr ns), some (iO at0), some (iO most), some (iO v), none, none, none, none, none, none, none, none, none, none, none] := by
    simp [pl, qt, hasBor, backAr, Ar.o, h0]
  have t1 : ex (run T n (k + 4)) n (.set 4 (.bin .add (.int 1) (.bin .mod (.var 3) (.int 6)))) [some (scr ns), some (iO at0), some (iO most), some (iO v), none, none, none, none, none, none, none, none, none, none, none] = .ok .nx [some (scr ns), some (iO at0), some (iO most), some (iO v), some (iO P), none, none, none, none, none, none, none, none, none, none] := by
    simp [pl, qt, hasBor, backAr, Ar.o, hP]
  have t2 : ex (run T n (k + 4)) n (.set 5 (.bin .mod (.bin .fdiv (.var 3) (.int 6)) (.bin .add (.var 2) (.int 1)))) [some (scr ns), some (iO at0), some (iO most), some (iO v), some (iO P), none, none, none, none, none, none, none, none, none, none] = .ok .nx [some (scr ns), some (iO at0), some (iO most), some (iO v), some (iO P), some (iO m0), none, none, none, none, none, none, none, none, none] := by
    have bm : binO .mod (iO (v / 6)) (iO ((most : Int) + 1)) = some (iO m0) := by
      simp only [binO]
      rw [if_pos (decide_eq_true m1), hm0]
    simp [pl, qt, hasBor, backAr, Ar.o, c6, bm]
  have t3 : ex (run T n (k + 4)) n (.ite (.cmp .eq (.bin .mod (.bin .fdiv (.bin .fdiv (.var 3) (.int 6)) (.bin .add (.var 2) (.int 1))) (.int 8)) (.int 3)) (.cons (.set 5 (.bin .mod (.bin .fdiv (.bin .fdiv (.var 3) (.int 48)) (.bin .add (.var 2) (.int 1))) (.int 16))) .nil) .nil) [some (scr ns), some (iO at0), some (iO most), some (iO v), some (iO P), some (iO m0), none, none, none, none, none, none, none, none, none] = .ok .nx [some (scr ns), some (iO at0), some (iO most), some (iO v), some (iO P), some (iO w), none, none, none, none, none, none, none, none, none] := by
    by_cases q : v / 6 / ((most : Int) + 1) % 8 = 3
    · rw [if_pos q] at hw
      simp [pl, qt, c6, c48, cm, q, hw]
    · rw [if_neg q] at hw
      have hw' : m0 = w := by omega
      subst hw'
      simp [pl, qt, c6, c48, cm, q]
  have t4 : ex (run T n (k + 4)) n (.asg (.tp (.nm 6) (.nm 3)) (.call "_law_grown" (.cons .val (.bin .fdiv (.bin .fdiv (.var 3) (.int 768)) (.bin .add (.var 2) (.int 1))) (.cons .val (.var 4) (.cons .val (.var 5) (.cons .val (.int 10) .nil)))))) [some (scr ns), some (iO at0), some (iO most), some (iO v), some (iO P), some (iO w), none, none, none, none, none, none, none, none, none] = .ok .nx [some (scr ns), some (iO at0), some (iO most), some (iO b1), some (iO P), some (iO w), some (tnO L0), none, none, none, none, none, none, none, none] := by
    generalize tnO L0 = to at *
    simp [pl, qt, hasBor, backAr, Ar.o, c768, cm, hbg, gg, setTgO, tupOf]
  have t5 : ex (run T n (k + 4)) n (.set 7 (.call "_law_names" (.cons .val (.call "_law_big" (.cons .val (.var 0) (.cons .val (.bin .add (.var 1) (.int 1)) .nil))) (.cons .val (.bl1 .len (.var 6)) .nil)))) [some (scr ns), some (iO at0), some (iO most), some (iO b1), some (iO P), some (iO w), some (tnO L0), none, none, none, none, none, none, none, none] = .ok .nx [some (scr ns), some (iO at0), some (iO most), some (iO b1), some (iO P), some (iO w), some (tnO L0), some (.lst (Ns.map sO)), none, none, none, none, none, none, none] := by
    have lf0 : isFz (tnO L0) = false := rfl
    generalize Ns.map sO = nn at *
    generalize tnO L0 = to at *
    simp [pl, qt, hasBor, backAr, Ar.o, h1, lN, gN]
  have t6 : ex (run T n (k + 4)) n (.frz 7) [some (scr ns), some (iO at0), some (iO most), some (iO b1), some (iO P), some (iO w), some (tnO L0), some (.lst (Ns.map sO)), none, none, none, none, none, none, none] = .ok .nx [some (scr ns), some (iO at0), some (iO most), some (iO b1), some (iO P), some (iO w), some (tnO L0), some (.fz (lsD Ns)), none, none, none, none, none, none, none] := by
    rw [ex_frz]
    simp only [List.getElem?_cons_zero, List.getElem?_cons_succ, List.set_cons_succ, List.set_cons_zero, er_lst, ers_ls]
  have t7 : ex (run T n (k + 4)) n (.set 8 (.call "_law_names" (.cons .val (.call "_law_big" (.cons .val (.var 0) (.cons .val (.bin .add (.var 1) (.int 2)) .nil))) (.cons .val (.var 5) .nil)))) [some (scr ns), some (iO at0), some (iO most), some (iO b1), some (iO P), some (iO w), some (tnO L0), some (.fz (lsD Ns)), none, none, none, none, none, none, none] = .ok .nx [some (scr ns), some (iO at0), some (iO most), some (iO b1), some (iO P), some (iO w), some (tnO L0), some (.fz (lsD Ns)), some (.lst (Ws.map sO)), none, none, none, none, none, none] := by
    generalize Ws.map sO = ww at *
    generalize lsD Ns = nn at *
    generalize tnO L0 = to at *
    simp [pl, qt, hasBor, backAr, Ar.o, h2, gW]
  have t8 : ex (run T n (k + 4)) n (.frz 8) [some (scr ns), some (iO at0), some (iO most), some (iO b1), some (iO P), some (iO w), some (tnO L0), some (.fz (lsD Ns)), some (.lst (Ws.map sO)), none, none, none, none, none, none] = .ok .nx [some (scr ns), some (iO at0), some (iO most), some (iO b1), some (iO P), some (iO w), some (tnO L0), some (.fz (lsD Ns)), some (.fz (lsD Ws)), none, none, none, none, none, none] := by
    rw [ex_frz]
    simp only [List.getElem?_cons_zero, List.getElem?_cons_succ, List.set_cons_succ, List.set_cons_zero, er_lst, ers_ls]
  have t9 : ex (run T n (k + 4)) n (.set 6 (.call "_law_begun" (.cons (.lend 6) (.var 6) (.cons .val (.var 4) (.cons .val (.var 3) .nil))))) [some (scr ns), some (iO at0), some (iO most), some (iO b1), some (iO P), some (iO w), some (tnO L0), some (.fz (lsD Ns)), some (.fz (lsD Ws)), none, none, none, none, none, none] = .ok .nx [some (scr ns), some (iO at0), some (iO most), some (iO b1), some (iO P), some (iO w), some (.lst os), some (.fz (lsD Ns)), some (.fz (lsD Ws)), none, none, none, none, none, none] := by
    generalize lsD Ns = nn at *
    generalize lsD Ws = ww at *
    generalize tnO L0 = to at *
    match ps4, p40 with
    | p :: ps, h =>
      have : p = none := by simpa using h
      subst this
      simp [pl, qt, hasBor, backAr, Ar.o, gb]
  have t10 : ex (run T n (k + 4)) n (.frz 6) [some (scr ns), some (iO at0), some (iO most), some (iO b1), some (iO P), some (iO w), some (.lst os), some (.fz (lsD Ns)), some (.fz (lsD Ws)), none, none, none, none, none, none] = .ok .nx [some (scr ns), some (iO at0), some (iO most), some (iO b1), some (iO P), some (iO w), some (.fz (tnD L)), some (.fz (lsD Ns)), some (.fz (lsD Ws)), none, none, none, none, none, none] := by
    rw [ex_frz]
    simp only [List.getElem?_cons_zero, List.getElem?_cons_succ, List.set_cons_succ, List.set_cons_zero, eoD]
  have t11 : ex (run T n (k + 4)) n (.set 9 (.lrg (.bl1 .len (.var 6)))) [some (scr ns), some (iO at0), some (iO most), some (iO b1), some (iO P), some (iO w), some (.fz (tnD L)), some (.fz (lsD Ns)), some (.fz (lsD Ws)), none, none, none, none, none, none] = .ok .nx [some (scr ns), some (iO at0), some (iO most), some (iO b1), some (iO P), some (iO w), some (.fz (tnD L)), some (.fz (lsD Ns)), some (.fz (lsD Ws)), some (.lst ((List.range L.length).map natO)), none, none, none, none, none] := by
    have l16' : L.length ≤ 16 := by omega
    have lt := len_tn (L := L)
    have kk : rngOk (L.length : Int) = true := Nat.ble_eq_true_of_le (by omega)
    have kb : Nat.ble L.length 16777216 = true := Nat.ble_eq_true_of_le (by omega)
    have kb' : (L.length : Int) ≤ 16777216 := by omega
    have e1 : (rngD 0 L.length).map O.fz = (List.range L.length).map natO := by
      rw [rngD_nat, List.map_map]
      rfl
    generalize (List.range L.length).map natO = ro at *
    generalize lsD Ns = nn at *
    generalize lsD Ws = ww at *
    generalize tnD L = tn at *
    simp [pl, qt, lt, kk, kb, kb', e1]
  have t12 : ex (run T n (k + 4)) n (.set 3 (.call "_law_big" (.cons .val (.var 0) (.cons .val (.bin .add (.var 1) (.int 3)) .nil)))) [some (scr ns), some (iO at0), some (iO most), some (iO b1), some (iO P), some (iO w), some (.fz (tnD L)), some (.fz (lsD Ns)), some (.fz (lsD Ws)), some (.lst ((List.range L.length).map natO)), none, none, none, none, none] = .ok .nx [some (scr ns), some (iO at0), some (iO most), some (iO v3), some (iO P), some (iO w), some (.fz (tnD L)), some (.fz (lsD Ns)), some (.fz (lsD Ws)), some (.lst ((List.range L.length).map natO)), none, none, none, none, none] := by
    generalize (List.range L.length).map natO = ro at *
    generalize lsD Ns = nn at *
    generalize lsD Ws = ww at *
    generalize tnD L = tn at *
    simp [pl, qt, hasBor, backAr, Ar.o, h3]
  have t13 : ex (run T n (k + 4)) n (.set 10 (.lst .nil)) [some (scr ns), some (iO at0), some (iO most), some (iO v3), some (iO P), some (iO w), some (.fz (tnD L)), some (.fz (lsD Ns)), some (.fz (lsD Ws)), some (.lst ((List.range L.length).map natO)), none, none, none, none, none] = .ok .nx [some (scr ns), some (iO at0), some (iO most), some (iO v3), some (iO P), some (iO w), some (.fz (tnD L)), some (.fz (lsD Ns)), some (.fz (lsD Ws)), some (.lst ((List.range L.length).map natO)), some (.lst []), none, none, none, none] := by
    rw [ex_set, ev_lst, evEs_nil, bind_ok_]
    rfl
  have lnN : Ns.length = L.length := nn'.len
  have L16' : L.length ≤ 16 := by omega
  obtain ⟨f14, e14, g14, rfl, b2, ord, y11, po, rfl⟩ := ok_wh (F := (run T n (k + 4))) (n := n) (c := .cmp .ne (.var 9) (.lst .nil)) (b := b_law_net_by_1)
    (S := fun f e => f = .nx ∧ ∃ (big : Int) (done : List Nat) (y11 : Option O), done.Perm (List.range L.length) ∧ e = [some (scr ns), some (iO at0), some (iO most), some (iO big), some (iO P), some (iO w), some (.fz (tnD L)), some (.fz (lsD Ns)), some (.fz (lsD Ws)), some (.lst (([] : List Nat).map natO)), some (.lst ((done.map (rowOf Ns Ws L)).map rwO)), y11, none, none, none])
    (fun kk e => ∃ (big : Int) (rest done : List Nat) (y11 : Option O), rest.length ≤ kk ∧ (done ++ rest).Perm (List.range L.length) ∧ e = [some (scr ns), some (iO at0), some (iO most), some (iO big), some (iO P), some (iO w), some (.fz (tnD L)), some (.fz (lsD Ns)), some (.fz (lsD Ws)), some (.lst (rest.map natO)), some (.lst ((done.map (rowOf Ns Ws L)).map rwO)), y11, none, none, none])
    (m := n) (e := [some (scr ns), some (iO at0), some (iO most), some (iO v3), some (iO P), some (iO w), some (.fz (tnD L)), some (.fz (lsD Ns)), some (.fz (lsD Ws)), some (.lst ((List.range L.length).map natO)), some (.lst []), none, none, none, none]) 16 (by omega) ⟨v3, List.range L.length, [], none, by rw [List.length_range]; exact L16', List.Perm.refl _, rfl⟩ (fun kk e hk2 hp => by
      obtain ⟨big, rest, done, y11, hr, pm, rfl⟩ := hp
      have nn2 := ne_nats (ord := rest)
      have lens : done.length + rest.length = L.length := by
        have := pm.length_eq
        rwa [List.length_append, List.length_range] at this
      by_cases h : rest = []
      · subst h
        refine ⟨false, [some (scr ns), some (iO at0), some (iO most), some (iO big), some (iO P), some (iO w), some (.fz (tnD L)), some (.fz (lsD Ns)), some (.fz (lsD Ws)), some (.lst (([] : List Nat).map natO)), some (.lst ((done.map (rowOf Ns Ws L)).map rwO)), y11, none, none, none], ?_, rfl, big, done, y11, by rw [List.append_nil] at pm; exact pm, rfl⟩
        generalize lsD Ns = nn at *
        generalize lsD Ws = ww at *
        generalize tnD L = tn at *
        generalize (done.map (rowOf Ns Ws L)).map rwO = dd at *
        simp [pl, qt, qts, strRoom, hs]
      · obtain ⟨c1, j, p, hj, g⟩ := row_turn (n := n) (k := k) (Ns := Ns) (Ws := Ws) (ord := rest) (done := done) (big := big) (x0 := some (scr ns)) (x1 := some (iO at0)) (x2 := some (iO most)) (x4 := some (iO P)) (x5 := some (iO w)) (x11 := y11) tv w15 lnN nw.len h (fun p hp => List.mem_range.mp (pm.mem_iff.mp (List.mem_append_right _ hp))) (by omega) (by omega)
        have hj2 : j < rest.length := by
          rcases Nat.lt_or_ge j rest.length with z | z
          · exact z
          · rw [List.getElem?_eq_none z] at hj; cases hj
        refine ⟨true, [some (scr ns), some (iO at0), some (iO most), some (iO big), some (iO P), some (iO w), some (.fz (tnD L)), some (.fz (lsD Ns)), some (.fz (lsD Ws)), some (.lst (rest.map natO)), some (.lst ((done.map (rowOf Ns Ws L)).map rwO)), y11, none, none, none], ?_, .nx, _, g, kk - 1, by omega, c1, rest.eraseIdx j, done ++ [p], some (iO p), by rw [List.length_eraseIdx_of_lt hj2]; omega, ?_, rfl⟩
        · rw [decide_eq_false h] at nn2
          generalize rest.map natO = rr at *
          generalize lsD Ns = nn at *
          generalize lsD Ws = ww at *
          generalize tnD L = tn at *
          generalize (done.map (rowOf Ns Ws L)).map rwO = dd at *
          simp [pl, qt, qts, nn2, strRoom, hs, -c_neD, -cmp_lstL, -cmp_lstR]
        · have pe : (rest[j] :: rest.eraseIdx j).Perm rest := perm_at hj2
          have en : rest[j] = p := by
            rw [List.getElem?_eq_getElem hj2] at hj
            exact Option.some.inj hj
          rw [en] at pe
          refine List.Perm.trans ?_ pm
          rw [List.append_assoc]
          exact List.Perm.append_left _ pe)
  have t14 : ex (run T n (k + 4)) n (.whl (.cmp .ne (.var 9) (.lst .nil)) b_law_net_by_1) [some (scr ns), some (iO at0), some (iO most), some (iO v3), some (iO P), some (iO w), some (.fz (tnD L)), some (.fz (lsD Ns)), some (.fz (lsD Ws)), some (.lst ((List.range L.length).map natO)), some (.lst []), none, none, none, none] = .ok .nx [some (scr ns), some (iO at0), some (iO most), some (iO b2), some (iO P), some (iO w), some (.fz (tnD L)), some (.fz (lsD Ns)), some (.fz (lsD Ws)), some (.lst []), some (.lst ((ord.map (rowOf Ns Ws L)).map rwO)), y11, none, none, none] := by
    rw [ex_whl]
    exact g14
  have t15 : ex (run T n (k + 4)) n (.frz 10) [some (scr ns), some (iO at0), some (iO most), some (iO b2), some (iO P), some (iO w), some (.fz (tnD L)), some (.fz (lsD Ns)), some (.fz (lsD Ws)), some (.lst []), some (.lst ((ord.map (rowOf Ns Ws L)).map rwO)), y11, none, none, none] = .ok .nx [some (scr ns), some (iO at0), some (iO most), some (iO b2), some (iO P), some (iO w), some (.fz (tnD L)), some (.fz (lsD Ns)), some (.fz (lsD Ws)), some (.lst []), some (.fz (.list ((ord.map (rowOf Ns Ws L)).map rwD))), y11, none, none, none] := by
    rw [ex_frz]
    simp only [List.getElem?_cons_zero, List.getElem?_cons_succ, List.set_cons_succ, List.set_cons_zero, er_lst, er_rows]
  have t16 : ex (run T n (k + 4)) n (.set 12 (.lst .nil)) [some (scr ns), some (iO at0), some (iO most), some (iO b2), some (iO P), some (iO w), some (.fz (tnD L)), some (.fz (lsD Ns)), some (.fz (lsD Ws)), some (.lst []), some (.fz (.list ((ord.map (rowOf Ns Ws L)).map rwD))), y11, none, none, none] = .ok .nx [some (scr ns), some (iO at0), some (iO most), some (iO b2), some (iO P), some (iO w), some (.fz (tnD L)), some (.fz (lsD Ns)), some (.fz (lsD Ws)), some (.lst []), some (.fz (.list ((ord.map (rowOf Ns Ws L)).map rwD))), y11, some (.lst []), none, none] := by
    rw [ex_set, ev_lst, evEs_nil, bind_ok_]
    rfl
  have kw : rngOk (w : Int) = true := Nat.ble_eq_true_of_le (by omega)
  obtain ⟨e17, g17, b3, ws0, y13, y14, nms, wts, rfl⟩ := fo_inv (F := (run T n (k + 4))) (n := n) (tg := .nm 13) (b := b_law_net_by_2) (ds := rngD 0 w) (k := 0) (e := [some (scr ns), some (iO at0), some (iO most), some (iO b2), some (iO P), some (iO w), some (.fz (tnD L)), some (.fz (lsD Ns)), some (.fz (lsD Ws)), some (.lst []), some (.fz (.list ((ord.map (rowOf Ns Ws L)).map rwD))), y11, some (.lst []), none, none])
    (fun i e => ∃ (big : Int) (ws0 : List WT) (y13 y14 : Option O), ws0.map (·.1) = Ws.take i ∧ (∀ x ∈ ws0, WtOk x.2) ∧ e = [some (scr ns), some (iO at0), some (iO most), some (iO big), some (iO P), some (iO w), some (.fz (tnD L)), some (.fz (lsD Ns)), some (.fz (lsD Ws)), some (.lst []), some (.fz (.list ((ord.map (rowOf Ns Ws L)).map rwD))), y11, some (.lst (ws0.map Gn.wO)), y13, y14])
    ⟨b2, [], none, none, rfl, fun x hx => (by cases hx), rfl⟩ (fun i e d hd hp => by
      obtain ⟨hi, rfl⟩ := rngD_get hd
      rw [Nat.zero_add] at hp ⊢
      obtain ⟨big, ws0, y13, y14, nms, wts, rfl⟩ := hp
      rw [Int.zero_add]
      obtain ⟨q, r, ps, wq, gw⟩ := r_worth (n := n) (k := k + 2) (big := big) hn
      have ll : ws0.length ≤ 15 := by
        have := congrArg List.length nms
        rw [List.length_map, List.length_take] at this
        omega
      have i3 := at_str (xs := Ws) (i := i) (by rw [nw.len]; exact hi)
      have hWi : Ws[i]? = some (Ws.getD i "") := by
        rw [List.getD_eq_getElem?_getD, List.getElem?_eq_getElem (by rw [nw.len]; exact hi)]
        rfl
      refine ⟨_, [some (scr ns), some (iO at0), some (iO most), some (iO r), some (iO P), some (iO w), some (.fz (tnD L)), some (.fz (lsD Ns)), some (.fz (lsD Ws)), some (.lst []), some (.fz (.list ((ord.map (rowOf Ns Ws L)).map rwD))), y11, some (.lst ((ws0 ++ [(Ws.getD i "", q)]).map Gn.wO)), some (iO i), some (.fz (frD q))], rfl, .inl ?_, r, ws0 ++ [(Ws.getD i "", q)], some (iO i), some (.fz (frD q)), ?_, fun x hx => ?_, rfl⟩
      · have e1 : (ws0 ++ [(Ws.getD i "", q)]).map Gn.wO = ws0.map Gn.wO ++ [Gn.wO (Ws.getD i "", q)] := List.map_append
        have e2 : O.fz (.tuple [.str (Ws.getD i ""), frD q]) = Gn.wO (Ws.getD i "", q) := rfl
        have l2 : (ws0.map Gn.wO).length < 16777216 := by rw [List.length_map]; omega
        rw [e1]
        have tp : tupOf (.fz (.tuple [frD q, .int r])) = some [.fz (frD q), iO r] := rfl
        generalize ws0.map Gn.wO = wo at *
        generalize Gn.wO (Ws.getD i "", q) = wq' at *
        generalize Ws.getD i "" = wn at *
        generalize frD q = fq at *
        generalize lsD Ns = nn at *
        generalize lsD Ws = ww at *
        generalize tnD L = tn at *
        generalize PyData.list ((ord.map (rowOf Ns Ws L)).map rwD) = rd at *
        simp [b_law_net_by_2, pl, qt, qts, hasBor, backAr, Ar.o, gw, setTgO, tp, i3, e2, strRoom, hs, l2]
      · rw [List.map_append, nms, take_snoc hWi]
        rfl
      · rcases List.mem_append.mp hx with z | z
        · exact wts x z
        · rw [List.mem_singleton.mp z]
          exact wq)
  rw [Nat.zero_add, rngD_len, List.take_of_length_le (by rw [nw.len]; exact Nat.le_refl _)] at nms
  have t17 : ex (run T n (k + 4)) n (.forr (.nm 13) (.rng1 (.var 5)) b_law_net_by_2) [some (scr ns), some (iO at0), some (iO most), some (iO b2), some (iO P), some (iO w), some (.fz (tnD L)), some (.fz (lsD Ns)), some (.fz (lsD Ws)), some (.lst []), some (.fz (.list ((ord.map (rowOf Ns Ws L)).map rwD))), y11, some (.lst []), none, none] = .ok .nx [some (scr ns), some (iO at0), some (iO most), some (iO b3), some (iO P), some (iO w), some (.fz (tnD L)), some (.fz (lsD Ns)), some (.fz (lsD Ws)), some (.lst []), some (.fz (.list ((ord.map (rowOf Ns Ws L)).map rwD))), y11, some (.lst (ws0.map Gn.wO)), y13, y14] := by
    have it : evIt (run T n (k + 4)) (.rng1 (.var 5)) [some (scr ns), some (iO at0), some (iO most), some (iO b2), some (iO P), some (iO w), some (.fz (tnD L)), some (.fz (lsD Ns)), some (.fz (lsD Ws)), some (.lst []), some (.fz (.list ((ord.map (rowOf Ns Ws L)).map rwD))), y11, some (.lst []), none, none] = .ok (rngD 0 w) [some (scr ns), some (iO at0), some (iO most), some (iO b2), some (iO P), some (iO w), some (.fz (tnD L)), some (.fz (lsD Ns)), some (.fz (lsD Ws)), some (.lst []), some (.fz (.list ((ord.map (rowOf Ns Ws L)).map rwD))), y11, some (.lst []), none, none] := by
      generalize lsD Ns = nn at *
      generalize lsD Ws = ww at *
      generalize tnD L = tn at *
      generalize PyData.list ((ord.map (rowOf Ns Ws L)).map rwD) = rd at *
      simp [kw]
    rw [ex_forr, it, bind_ok_]
    exact g17
  have t18 : ex (run T n (k + 4)) n (.frz 12) [some (scr ns), some (iO at0), some (iO most), some (iO b3), some (iO P), some (iO w), some (.fz (tnD L)), some (.fz (lsD Ns)), some (.fz (lsD Ws)), some (.lst []), some (.fz (.list ((ord.map (rowOf Ns Ws L)).map rwD))), y11, some (.lst (ws0.map Gn.wO)), y13, y14] = .ok .nx [some (scr ns), some (iO at0), some (iO most), some (iO b3), some (iO P), some (iO w), some (.fz (tnD L)), some (.fz (lsD Ns)), some (.fz (lsD Ws)), some (.lst []), some (.fz (.list ((ord.map (rowOf Ns Ws L)).map rwD))), y11, some (.fz (.list (ws0.map wD))), y13, y14] := by
    rw [ex_frz]
    simp only [List.getElem?_cons_zero, List.getElem?_cons_succ, List.set_cons_succ, List.set_cons_zero, er_lst, er_worths]
  have txs : ∀ x ∈ ws0, PyData.strOk x.1 = true := fun x hx => nw.txs (by rw [← nms]; exact List.mem_map.mpr ⟨x, hx, rfl⟩)
  have lws : ws0.length = w := by
    have := congrArg List.length nms
    rw [List.length_map, nw.len] at this
    exact this
  obtain ⟨ws, pw, ew, sw⟩ := srt_worths txs (by omega)
  have c1 := cutL_hi (xs := Ns.map PyData.str) (i := (P : Int)) (a := P) rfl (by rw [List.length_map, lnN]; exact tv.pl)
  have mN : ((Ns.map PyData.str).take P).map O.fz = (Ns.take P).map sO := by rw [← List.map_take, List.map_map]; rfl
  have slv : sliceO (.fz (lsD Ns)) none (some (P : Int)) = some (.lst ((Ns.take P).map sO)) := by
    show some (O.lst ((cutD (Ns.map PyData.str) none (some (P : Int))).map .fz)) = _
    rw [c1, mN]
  have t19 : ex (run T n (k + 4)) n (.ret (.tup (.cons (.sl (.var 7) .no (.so (.var 4))) (.cons (.mov 10) (.cons (.srt (.mov 12) false) .nil))))) [some (scr ns), some (iO at0), some (iO most), some (iO b3), some (iO P), some (iO w), some (.fz (tnD L)), some (.fz (lsD Ns)), some (.fz (lsD Ws)), some (.lst []), some (.fz (.list ((ord.map (rowOf Ns Ws L)).map rwD))), y11, some (.fz (.list (ws0.map wD))), y13, y14] = .ok (.rt (.tup [.lst ((Ns.take P).map sO), .fz (.list ((ord.map (rowOf Ns Ws L)).map rwD)), .lst (ws.map Gn.wO)])) [some (scr ns), some (iO at0), some (iO most), some (iO b3), some (iO P), some (iO w), some (.fz (tnD L)), some (.fz (lsD Ns)), some (.fz (lsD Ws)), some (.lst []), none, y11, none, y13, y14] := by
    have mt : mkTup [.lst ((Ns.take P).map sO), .fz (.list ((ord.map (rowOf Ns Ws L)).map rwD)), .lst (ws.map Gn.wO)] = .tup [.lst ((Ns.take P).map sO), .fz (.list ((ord.map (rowOf Ns Ws L)).map rwD)), .lst (ws.map Gn.wO)] := rfl
    generalize (Ns.take P).map sO = pO at *
    generalize ws0.map wD = wz at *
    generalize ws.map Gn.wO = wy at *
    generalize PyData.list ((ord.map (rowOf Ns Ws L)).map rwD) = rz at *
    generalize lsD Ns = nn at *
    generalize lsD Ws = ww at *
    generalize tnD L = tn at *
    simp [pl, qt, qtO, slv, sw, mt, strRoom, hs]
  refine ⟨P, w, L, Ns, Ws, ord, ws, (wipeE [some (scr ns), some (iO at0), some (iO most), some (iO b3), some (iO P), some (iO w), some (.fz (tnD L)), some (.fz (lsD Ns)), some (.fz (lsD Ws)), some (.lst []), none, y11, none, y13, y14] (asSs b_law_net_by)).take 3, ⟨tv, nn', nw, w15, po, fun x hx => wts x (pw.mem_iff.mp hx), ws0, nms, pw, ew⟩, ?_⟩
  show finB 3 b_law_net_by (exs (run T n (k + 4)) n b_law_net_by [some (scr ns), some (iO at0), some (iO most), none, none, none, none, none, none, none, none, none, none, none, none]) = _
  rw [b_law_net_by, exs_cons, t0, thn2_nx, exs_cons, t1, thn2_nx, exs_cons, t2, thn2_nx, exs_cons, t3, thn2_nx, exs_cons, t4, thn2_nx, exs_cons, t5, thn2_nx, exs_cons, t6, thn2_nx, exs_cons, t7, thn2_nx, exs_cons, t8, thn2_nx, exs_cons, t9, thn2_nx, exs_cons, t10, thn2_nx, exs_cons, t11, thn2_nx, exs_cons, t12, thn2_nx, exs_cons, t13, thn2_nx, exs_cons, t14, thn2_nx, exs_cons, t15, thn2_nx, exs_cons, t16, thn2_nx, exs_cons, t17, thn2_nx, exs_cons, t18, thn2_nx, exs_cons, t19, thn2_rt]
  rfl
end
end K11
namespace K11
open PySem PySem.Spec PyProof.Rows L2 Rim Lp Gn
section
variable {n k : Nat}
abbrev RT := List (Str × List Str)
/-! ### turns by name -/
def kvF (e : Str × List Str) : Key × O := (.inr e.1, .fz (lsD e.2))
def kvD (e : Str × List Str) : PyData × PyData := (.str e.1, lsD e.2)
theorem inr_inj : ∀ a b : Str, (Sum.inr a : Key) = Sum.inr b → a = b := fun a b h => Sum.inr.inj h
theorem get_kv {R : RT} {p : Str} : get1 (R.map kvF) (.inr p) = (get1 R p).map fun ws => .fz (lsD ws) := get1_map (f := fun s : Str => (Sum.inr s : Key)) (g := fun ws => O.fz (lsD ws)) inr_inj
theorem put_kv {R : RT} {p : Str} {ws : List Str} : put1 (R.map kvF) (.inr p) (.fz (lsD ws)) = (put1 R p ws).map kvF := put1_map (f := fun s : Str => (Sum.inr s : Key)) (g := fun ws => O.fz (lsD ws)) inr_inj
theorem fget_kv {p : Str} : ∀ {R : RT}, fget (R.map kvD) (.inr p) = (get1 R p).map fun ws => lsD ws
  | [] => rfl
  | e :: R => by
    rw [List.map_cons]
    show (if Rim.keyOf (.str e.1) = some (Sum.inr p) then some (lsD e.2) else fget (R.map kvD) (.inr p)) = _
    rw [show Rim.keyOf (.str e.1) = some (Sum.inr e.1) from rfl]
    unfold get1
    by_cases h : e.1 = p
    · rw [if_pos (by rw [h]), if_pos h]
      rfl
    · rw [if_neg (fun z => h (Sum.inr.inj (Option.some.inj z))), if_neg h]
      exact fget_kv
theorem erk_kv : ∀ {R : RT}, erk (R.map kvF) = R.map kvD
  | [] => rfl
  | e :: R => by
    rw [List.map_cons, List.map_cons]
    show (keyD (.inr e.1), er (.fz (lsD e.2))) :: erk (R.map kvF) = _
    rw [erk_kv, er_fz]
    rfl
/-- the turns, locked -/
def tkD (R : RT) : PyData := .dict ((.none, .bool true) :: R.map kvD)
theorem item_tk {R : RT} {p : Str} {ws : List Str} (h : get1 R p = some ws) : itemO (.fz (tkD R)) (.str p) = some (.fz (lsD ws)) := by
  show (match seqO (.fz (tkD R)) (.str p) with | some o => some o | none => dictO (.fz (tkD R)) (.str p)) = _
  have s : seqO (.fz (tkD R)) (.str p) = none := rfl
  have d : dictO (.fz (tkD R)) (.str p) = (fget ((.none, .bool true) :: R.map kvD) (.inr p)).map .fz := rfl
  have e : fget ((.none, .bool true) :: R.map kvD) (.inr p) = fget (R.map kvD) (.inr p) := by
    conv => lhs; unfold fget
    rw [show Rim.keyOf .none = none from rfl, if_neg (fun z => by cases z)]
  rw [s, d, e, fget_kv, h]
  rfl
section
variable {posts : List Str} {R : RT} {ws : List WT}
theorem r_turns (nr : NR posts R) : ∃ ps : Rim.Env, run T n (k + 1) "turns_of" [.fz (netD posts R ws)] = .ok (.dk (R.map kvF)) ps := by
  rw [show ("turns_of" : Str) = d_turns_of.name from rfl, run_b nodupT (by simp [T]) rfl]
  have hs : sizeLine = 16777216 := by decide
  obtain ⟨e1, g1, y2, y3, rfl⟩ := fo_inv (F := run T n k) (n := n) (tg := .tp (.nm 2) (.nm 3)) (b := b_turns_of_1) (ds := R.map rwD) (k := 0) (e := [some (.fz (netD posts R ws)), some (.dk []), none, none])
    (fun i e => ∃ y2 y3, e = [some (.fz (netD posts R ws)), some (.dk ((R.take i).map kvF)), y2, y3]) ⟨none, none, rfl⟩ (fun i e d hd hp => by
      rw [Nat.zero_add] at hp ⊢
      obtain ⟨y2, y3, rfl⟩ := hp
      rw [List.getElem?_map] at hd
      obtain ⟨r, hr, rfl⟩ := Option.map_eq_some_iff.mp hd
      have hi : i < R.length := by
        rcases Nat.lt_or_ge i R.length with z | z
        · exact z
        · rw [List.getElem?_eq_none z] at hr; cases hr
      have fresh : get1 (R.take i) r.1 = none := get1_no fun z => by
        obtain ⟨q, hq, e⟩ := List.mem_map.mp z
        obtain ⟨j, hj, hj2⟩ := List.mem_iff_getElem.mp hq
        rw [List.length_take] at hj
        rw [List.getElem_take] at hj2
        rw [List.getElem?_eq_getElem hi] at hr
        have pw := List.pairwise_iff_getElem.mp nr.keys j i (by rw [List.length_map]; omega) (by rw [List.length_map]; omega) (by omega)
        rw [List.getElem_map, List.getElem_map, hj2, Option.some.inj hr] at pw
        exact pw e
      have l2 := nr.l2
      have pd := put_dk (n := n) (F := run T n k) (i := 1) (kE := .var 2) (a := .frz (.bl1 .list (.var 3))) (e := [some (.fz (netD posts R ws)), some (.dk ((R.take i).map kvF)), some (sO r.1), some (.fz (lsD r.2))]) (e1 := [some (.fz (netD posts R ws)), some (.dk ((R.take i).map kvF)), some (sO r.1), some (.fz (lsD r.2))]) (kvs := (R.take i).map kvF) (x := .fz (lsD r.2)) (d := .str r.1) (kk := .inr r.1) (by
          have lt : bl1O .list (.fz (lsD r.2)) = some (lsO r.2) := by
            show some (O.lst ((r.2.map PyData.str).map .fz)) = _
            rw [List.map_map]
            rfl
          generalize netD posts R ws = nD at *
          generalize (R.take i).map kvF = kv at *
          have el : er (lsO r.2) = lsD r.2 := by rw [er_lst, ers_ls]
          generalize lsO r.2 = lo at *
          generalize lsD r.2 = ld at *
          simp [pl, qt, lt, el]) rfl (by
          generalize netD posts R ws = nD at *
          generalize (R.take i).map kvF = kv at *
          simp) rfl rfl (by
        rw [List.length_map, List.length_take, hs]
        omega)
      rw [put_kv, get1_none_put fresh] at pd
      rw [take_snoc hr]
      refine ⟨_, _, rfl, .inl ?_, some (sO r.1), some (.fz (lsD r.2)), rfl⟩
      · rw [b_turns_of_1, exs_cons]
        show thn2 _ (ex _ n (.put (.nm 1) (.var 2) (.frz (.bl1 .list (.var 3)))) [some (.fz (netD posts R ws)), some (.dk ((R.take i).map kvF)), some (sO r.1), some (.fz (lsD r.2))]) = _
        rw [pd, thn2_nx, exs_nil]
        rfl)
  rw [Nat.zero_add, List.length_map, List.take_length] at g1
  refine ⟨[some (.fz (netD posts R ws))], ?_⟩
  unfold netD at *
  generalize R.map kvF = kv at *
  generalize lsD posts = pD at *
  generalize PyData.list (ws.map wD) = wD' at *
  generalize R.map rwD = rD at *
  generalize hq : runB _ _ _ _ _ _ = q
  simp [runB, d_turns_of, b_turns_of, pl, qt, atI_pos, g1, strRoom, hs, asSs, asS, tgS, wipeE] at hq
  exact hq.symm
/-! ### points within -/
theorem any_post {nm : Str} : ∀ {posts : List Str}, ((posts.map PyData.str).any fun z => PyData.eqv z (.str nm)) = decide (nm ∈ posts)
  | [] => rfl
  | p :: posts => by
    rw [List.map_cons, List.any_cons, any_post]
    have e : PyData.eqv (.str p) (.str nm) = decide (p = nm) := by
      simp only [PyData.eqv]
      by_cases h : p = nm
      · subst h; simp
      · simp [h]
    rw [e]
    by_cases h : p = nm
    · subst h; simp
    · have : ¬ nm = p := fun z => h z.symm
      simp [h, this]
theorem in_list {nm : Str} (h : PyData.strOk nm = true) (hp : Txs posts) : cmpO .isin (sO nm) (.fz (lsD posts)) = some (decide (nm ∈ posts)) ∧ cmpO .notin (sO nm) (.fz (lsD posts)) = some (!decide (nm ∈ posts)) := by
  have s1 : SeqAt.shaped (PyData.str nm) = true := by rw [shaped_shp, shp_str]; exact h
  have s2 : SeqAt.shaped (lsD posts) = true := by rw [shaped_shp]; exact shp_ls hp
  constructor
  · unfold cmpO
    rw [er_fz, er_fz]
    simp only [s1, s2, Bool.and_self, if_true, any_post]
  · unfold cmpO
    rw [er_fz, er_fz]
    simp only [s1, s2, Bool.and_self, if_true, any_post]
/-- a comprehension over pairs, with a condition -/
theorem co_filter2 {α : Type} {F : Fns} {v u : Nat} {c elt : E} {e : Rim.Env} {d1 d2 : α → PyData} {p : α → Bool} {g : α → O} (hv : e[v]? = some none) (hu : e[u]? = some none) (hvu : v ≠ u) : ∀ {xs : List α}, (∀ x ∈ xs, evC F (.so c) ((e.set v (some (.fz (d1 x)))).set u (some (.fz (d2 x)))) = .ok (p x) ((e.set v (some (.fz (d1 x)))).set u (some (.fz (d2 x))))) →
    (∀ x ∈ xs, p x = true → ev F false elt ((e.set v (some (.fz (d1 x)))).set u (some (.fz (d2 x)))) = .ok (g x) ((e.set v (some (.fz (d1 x)))).set u (some (.fz (d2 x))))) →
    co F (.tp (.nm v) (.nm u)) [v, u] (.so c) elt (xs.map fun x => .tuple [d1 x, d2 x]) e = .ok ((xs.filter p).map g) e
  | [], _, _ => rfl
  | x :: xs, h1, h2 => by
    have ih := co_filter2 (F := F) (e := e) (g := g) hv hu hvu (xs := xs) (fun d hd => h1 d (List.mem_cons_of_mem _ hd)) fun d hd => h2 d (List.mem_cons_of_mem _ hd)
    have hvu2 : u ≠ v := fun z => hvu z.symm
    have w1 : wipeE e [v, u] = e := by
      show (e.set u none).set v none = e
      rw [set_none hu, set_none hv]
    have w2 : wipeE ((e.set v (some (.fz (d1 x)))).set u (some (.fz (d2 x)))) [v, u] = e := by
      show (((e.set v (some (.fz (d1 x)))).set u (some (.fz (d2 x)))).set u none).set v none = e
      rw [List.set_set, List.set_comm _ _ hvu, List.set_set, set_none hu, set_none hv]
    rw [List.map_cons, co_cons, w1]
    show (match some ((e.set v (some (.fz (d1 x)))).set u (some (.fz (d2 x)))) with
      | none => Rs.no
      | some e1 => (evC F (.so c) e1).bind fun b e2 => if b then (ev F false elt e2).bind fun o e3 => (co F _ [v, u] (.so c) elt _ (wipeE e3 [v, u])).bind fun os e4 => .ok (o :: os) e4 else co F _ [v, u] (.so c) elt _ (wipeE e2 [v, u])) = _
    simp only
    rw [h1 x List.mem_cons_self, bind_ok_]
    cases hp : p x with
    | false =>
      rw [List.filter_cons_of_neg (by rw [hp]; simp)]
      simp only [Bool.false_eq_true, if_false]
      rw [w2, ih]
    | true =>
      rw [List.filter_cons_of_pos hp, List.map_cons]
      simp only [if_true]
      rw [h2 x List.mem_cons_self hp, bind_ok_, w2, ih, bind_ok_]
/-- the points within, in the order of rows -/
def pwi (posts : List Str) (R : RT) : List Str := (R.filter fun r => !decide (r.1 ∈ posts)).map (·.1)
theorem co_pwi {F : Fns} (nr : NR posts R) {v u z : Nat} {e : Rim.Env} (hv : e[v]? = some none) (hu : e[u]? = some none) (hvu : v ≠ u) (hz : e[z]? = some (some (.fz (netD posts R ws)))) (zv : z ≠ v) (zu : z ≠ u) :
    co F (.tp (.nm v) (.nm u)) [v, u] (.so (.cmp .notin (.var v) (.ix (.var z) (.int 0)))) (.var v) (R.map rwD) e = .ok ((pwi posts R).map sO) e := by
  have q := co_filter2 (F := F) (v := v) (u := u) (c := .cmp .notin (.var v) (.ix (.var z) (.int 0))) (elt := .var v) (e := e) (d1 := fun r : Str × List Str => .str r.1) (d2 := fun r => lsD r.2) (p := fun r => !decide (r.1 ∈ posts)) (g := fun r => sO r.1) hv hu hvu (xs := R) (fun r hr => by
      have i1 := (in_list (nr.tr r hr).1 nr.tp).2
      have i2 : itemO (.fz (netD posts R ws)) (.int 0) = some (.fz (lsD posts)) := rfl
      have lv : v < e.length := by
        rcases Nat.lt_or_ge v e.length with z | z
        · exact z
        · rw [List.getElem?_eq_none z] at hv; cases hv
      have gv : ((e.set v (some (.fz (.str r.1)))).set u (some (.fz (lsD r.2))))[v]? = some (some (sO r.1)) := by
        rw [List.getElem?_set_ne hvu.symm, List.getElem?_set_self lv]
      have gz : ((e.set v (some (.fz (.str r.1)))).set u (some (.fz (lsD r.2))))[z]? = some (some (.fz (netD posts R ws))) := by
        rw [List.getElem?_set_ne zu.symm, List.getElem?_set_ne zv.symm, hz]
      generalize netD posts R ws = nD at *
      generalize lsD posts = pD at *
      generalize (e.set v (some (.fz (.str r.1)))).set u (some (.fz (lsD r.2))) = e9 at *
      simp [pl, qt, gv, gz, i1, i2]) (fun r hr _ => by
      have lv : v < e.length := by
        rcases Nat.lt_or_ge v e.length with z | z
        · exact z
        · rw [List.getElem?_eq_none z] at hv; cases hv
      have gv : ((e.set v (some (.fz (.str r.1)))).set u (some (.fz (lsD r.2))))[v]? = some (some (sO r.1)) := by
        rw [List.getElem?_set_ne hvu.symm, List.getElem?_set_self lv]
      generalize (e.set v (some (.fz (.str r.1)))).set u (some (.fz (lsD r.2))) = e9 at *
      simp [gv])
  have e1 : (R.filter fun r => !decide (r.1 ∈ posts)).map (fun r => sO r.1) = (pwi posts R).map sO := by
    unfold pwi
    rw [List.map_map]
    rfl
  rw [e1] at q
  exact q
theorem pwi_len (nr : NR posts R) : (pwi posts R).length ≤ 16 := by
  unfold pwi
  rw [List.length_map]
  exact Nat.le_trans (List.length_filter_le ..) nr.l2
theorem r_within (nr : NR posts R) : ∃ ps : Rim.Env, run T n (k + 1) "points_within" [.fz (netD posts R ws)] = .ok (.lst ((pwi posts R).map sO)) ps := by
  rw [show ("points_within" : Str) = d_points_within.name from rfl, run_b nodupT (by simp [T]) rfl]
  have hs : sizeLine = 16777216 := by decide
  have cc := co_pwi (F := run T n k) (ws := ws) nr (v := 1) (u := 2) (z := 0) (e := [some (.fz (netD posts R ws)), none, none]) rfl rfl (by decide) rfl (by decide) (by decide)
  have ln := pwi_len nr
  have ll : ((pwi posts R).map sO).length ≤ 16777216 := by rw [List.length_map]; omega
  refine ⟨[some (.fz (netD posts R ws))], ?_⟩
  have i1 : itemO (.fz (netD posts R ws)) (.int 1) = some (.fz (.list (R.map rwD))) := rfl
  generalize netD posts R ws = nD at *
  generalize (pwi posts R).map sO = po at *
  generalize R.map rwD = rD at *
  generalize hq : runB _ _ _ _ _ _ = q
  simp [runB, d_points_within, b_points_within, pl, qt, i1, cc, ll, strRoom, hs, asSs, asS, tgS, wipeE] at hq
  exact hq.symm
/-! ### corners -/
def eS (q : Str × Nat) : PyData := .tuple [.str q.1, .int q.2]
def eSO (q : Str × Nat) : O := .fz (eS q)
def cnt (posts : List Str) (r : Str × List Str) : Nat := r.2.length + if r.1 ∈ posts then 1 else 0
def corN (posts : List Str) (R : RT) : List (Str × Nat) := R.flatMap fun r => (List.range (cnt posts r)).map fun j => (r.1, j)
theorem cnt_le (nr : NR posts R) {r : Str × List Str} (hr : r ∈ R) : cnt posts r ≤ 31 := by
  have := nr.l3 r hr
  unfold cnt
  split <;> omega
theorem corN_le {R' : RT} (h : ∀ r ∈ R', cnt posts r ≤ 31) : (corN posts R').length ≤ R'.length * 31 := by
  unfold corN
  induction R' with
  | nil => exact Nat.zero_le _
  | cons r R' ih =>
    have := ih fun x hx => h x (List.mem_cons_of_mem _ hx)
    have := h r List.mem_cons_self
    rw [List.flatMap_cons, List.length_append, List.length_map, List.length_range, List.length_cons, Nat.add_mul]
    omega
theorem r_count (nr : NR posts R) {r : Str × List Str} (hr : r ∈ R) : ∃ ps : Rim.Env, run T n (k + 1) "corner_count" [.fz (lsD posts), .fz (tkD R), sO r.1] = .ok (iO (cnt posts r)) ps := by
  rw [show ("corner_count" : Str) = d_corner_count.name from rfl, run_b nodupT (by simp [T]) rfl]
  have it := item_tk (get1_of nr.keys hr)
  have i1 := (in_list (nr.tr r hr).1 nr.tp).1
  have ln : bl1O .len (.fz (lsD r.2)) = some (iO r.2.length) := by
    show some (O.fz (.int (((r.2.map PyData.str).length : Nat) : Int))) = _
    rw [List.length_map]
  have b1 : bl1O .int (.fz (.bool true)) = some (iO 1) := rfl
  have b0 : bl1O .int (.fz (.bool false)) = some (iO 0) := rfl
  refine ⟨[some (.fz (lsD posts)), some (.fz (tkD R)), some (sO r.1)], ?_⟩
  unfold cnt
  generalize lsD posts = pD at *
  generalize tkD R = tD at *
  generalize lsD r.2 = rD at *
  generalize hq : runB _ _ _ _ _ _ = q
  by_cases c : r.1 ∈ posts
  · rw [decide_eq_true c] at i1
    rw [if_pos c]
    simp [runB, d_corner_count, b_corner_count, pl, qt, it, i1, ln, b1, asSs, asS, tgS, wipeE] at hq
    exact hq.symm
  · rw [decide_eq_false c] at i1
    rw [if_neg c]
    simp [runB, d_corner_count, b_corner_count, pl, qt, it, i1, ln, b0, asSs, asS, tgS, wipeE] at hq
    exact hq.symm
theorem co_row {F : Fns} {a : Str} {c v u : Nat} {e : Rim.Env} (hv : e[v]? = some none) (hu : e[u]? = some (some (sO a))) (hvu : u ≠ v) : co F (.nm v) [v] .no (.tup (.cons (.var u) (.cons (.var v) .nil))) (rngD 0 c) e = .ok (((List.range c).map fun j => (a, j)).map eSO) e := by
  have hs : sizeLine = 16777216 := by decide
  rw [rngD_nat]
  have lv : v < e.length := by
    rcases Nat.lt_or_ge v e.length with z | z
    · exact z
    · rw [List.getElem?_eq_none z] at hv; cases hv
  have z := co_mapA (F := F) (enc := natD) (g := fun j : Nat => eSO (a, j)) (v := v) (elt := .tup (.cons (.var u) (.cons (.var v) .nil))) (e := e) hv (xs := List.range c) (fun j hj => by
    have mt : mkTup [sO a, .fz (natD j)] = eSO (a, j) := rfl
    have gv : (e.set v (some (.fz (natD j))))[v]? = some (some (.fz (natD j))) := List.getElem?_set_self lv
    have gu : (e.set v (some (.fz (natD j))))[u]? = some (some (sO a)) := by rw [List.getElem?_set_ne hvu.symm, hu]
    generalize e.set v (some (.fz (natD j))) = e9 at *
    generalize natD j = nj at *
    simp [gv, gu, mt, strRoom, hs]
    exact mt)
  rw [z, List.map_map]
  rfl
theorem lock_keys {R : RT} : evIt (run T n k) (.seq (.lkv 1)) [x0, some (.fz (tkD R)), x2, x3, x4] = .ok ((R.map (·.1)).map PyData.str) [x0, some (.fz (tkD R)), x2, x3, x4] := by
  unfold tkD
  simp
  intro a b _
  rfl
theorem r_corn (nr : NR posts R) : ∃ ps : Rim.Env, run T n (k + 2) "corners_of" [.fz (netD posts R ws)] = .ok (.lst ((corN posts R).map eSO)) ps := by
  rw [show ("corners_of" : Str) = d_corners_of.name from rfl, run_b nodupT (by simp [T]) rfl]
  have hs : sizeLine = 16777216 := by decide
  obtain ⟨ps0, gt⟩ := r_turns (n := n) (k := k) (ws := ws) nr
  have snoc : ∀ i r, R[i]? = some r → (corN posts (R.take (i + 1))).map eSO = (corN posts (R.take i)).map eSO ++ ((List.range (cnt posts r)).map fun j => (r.1, j)).map eSO := fun i r hr => by
    unfold corN
    rw [take_snoc hr, List.flatMap_append, List.flatMap_cons, List.flatMap_nil, List.append_nil, List.map_append]
  obtain ⟨e1, g1, y3, rfl⟩ := fo_inv (F := run T n (k + 1)) (n := n) (tg := .nm 3) (b := b_corners_of_1) (ds := (R.map (·.1)).map PyData.str) (k := 0) (e := [some (.fz (netD posts R ws)), some (.fz (tkD R)), some (.lst []), none, none])
    (fun i e => ∃ y3, e = [some (.fz (netD posts R ws)), some (.fz (tkD R)), some (.lst ((corN posts (R.take i)).map eSO)), y3, none]) ⟨none, rfl⟩ (fun i e d hd hp => by
      rw [Nat.zero_add] at hp ⊢
      obtain ⟨y3, rfl⟩ := hp
      rw [List.map_map, List.getElem?_map] at hd
      obtain ⟨r, hr, rfl⟩ := Option.map_eq_some_iff.mp hd
      have mr := List.mem_of_getElem? hr
      have cl := cnt_le nr mr
      obtain ⟨ps, gc⟩ := r_count (n := n) (k := k) nr mr
      have cc := co_row (F := run T n (k + 1)) (a := r.1) (c := cnt posts r) (v := 4) (u := 3) (e := [some (.fz (netD posts R ws)), some (.fz (tkD R)), some (.lst ((corN posts (R.take i)).map eSO)), some (sO r.1), none]) rfl rfl (by decide)
      have kc : rngOk (cnt posts r : Int) = true := Nat.ble_eq_true_of_le (by omega)
      have le1 := corN_le (posts := posts) (R' := R.take i) fun x hx => cnt_le nr (List.mem_of_mem_take hx)
      rw [List.length_take] at le1
      have l2 := nr.l2
      have l3 : ((corN posts (R.take i)).map eSO).length + (((List.range (cnt posts r)).map fun j => (r.1, j)).map eSO).length ≤ 16777216 := by
        simp only [List.length_map, List.length_range]
        omega
      have l4 : (((List.range (cnt posts r)).map fun j => (r.1, j)).map eSO).length ≤ 16777216 := by omega
      rw [snoc i r hr]
      refine ⟨_, [some (.fz (netD posts R ws)), some (.fz (tkD R)), some (.lst ((corN posts (R.take i)).map eSO ++ ((List.range (cnt posts r)).map fun j => (r.1, j)).map eSO)), some (sO r.1), none], rfl, .inl ?_, some (sO r.1), rfl⟩
      have i0 : itemO (.fz (netD posts R ws)) (.int 0) = some (.fz (lsD posts)) := rfl
      have mx : mutO .extend ((corN posts (R.take i)).map eSO) [.lst (((List.range (cnt posts r)).map fun j => (r.1, j)).map eSO)] = some ((corN posts (R.take i)).map eSO ++ ((List.range (cnt posts r)).map fun j => (r.1, j)).map eSO, .fz .none) := by
        simp only [mutO]
        rw [if_pos (Nat.ble_eq_true_of_le (by rw [hs]; exact l3))]
      show exs _ n b_corners_of_1 [some (.fz (netD posts R ws)), some (.fz (tkD R)), some (.lst ((corN posts (R.take i)).map eSO)), some (sO r.1), none] = _
      generalize ((List.range (cnt posts r)).map fun j => (r.1, j)).map eSO = oN at *
      generalize (corN posts (R.take i)).map eSO = oA at *
      generalize netD posts R ws = nD at *
      generalize tkD R = tD at *
      generalize lsD posts = pD at *
      simp [b_corners_of_1, pl, qt, qts, hasBor, backAr, Ar.o, i0, gc, kc, cc, l4, mx, strRoom, hs, wipeE])
  rw [Nat.zero_add, List.length_map, List.length_map, List.take_length] at g1
  refine ⟨[some (.fz (netD posts R ws))], ?_⟩
  have lk := lock_keys (n := n) (k := k + 1) (x0 := some (.fz (netD posts R ws))) (x2 := some (.lst [])) (x3 := none) (x4 := none) (R := R)
  have lkd : O.fz (.dict ((.none, .bool true) :: erk (R.map kvF))) = .fz (tkD R) := by
    rw [erk_kv]
    rfl
  generalize netD posts R ws = nD at *
  generalize (corN posts R).map eSO = co_ at *
  generalize (R.map (·.1)).map PyData.str = ks at *
  generalize tkD R = tD at *
  generalize R.map kvF = kv at *
  generalize hq : runB _ _ _ _ _ _ = q
  simp [runB, d_corners_of, b_corners_of, pl, qt, hasBor, backAr, Ar.o, gt, lkd, lk, g1, strRoom, hs, asSs, asS, tgS, wipeE, -ev_lkv] at hq
  exact hq.symm
end
end
end K11
namespace K11
open PySem PySem.Spec PyProof.Rows L2 Rim Lp Gn
section
variable {n k : Nat}
/-! ### the ends of a wire -/
theorem ends_loop {net : PyData} {w a : Str} {x4 : Option O} : ∀ {xs : List Str} {j : Nat} {acc : List O} {x5 x6 : Option O}, acc.length + xs.length < 16777216 →
    ∃ y5 y6, fo (run T n k) n (.tp (.nm 5) (.nm 6)) b_ends_of_1 (((xs.map PyData.str).zipIdx j).map fun p => .tuple [.int p.2, p.1]) [some (.fz net), some (sO w), some (.lst acc), some (sO a), x4, x5, x6] = .ok .nx [some (.fz net), some (sO w), some (.lst (acc ++ (((xs.zipIdx j).filter fun q => decide (q.1 = w)).map fun q => (a, q.2)).map eSO)), some (sO a), x4, y5, y6]
  | [], j, acc, x5, x6, _ => ⟨x5, x6, by simp⟩
  | x :: xs, j, acc, x5, x6, h => by
    rw [List.length_cons] at h
    have hs : sizeLine = 16777216 := by decide
    rw [List.map_cons, List.zipIdx_cons, List.map_cons, fo_cons]
    by_cases e : x = w
    · obtain ⟨y5, y6, ih⟩ := ends_loop (net := net) (w := w) (a := a) (x4 := x4) (xs := xs) (j := j + 1) (acc := acc ++ [eSO (a, j)]) (x5 := some (iO j)) (x6 := some (sO x)) (by rw [List.length_append, List.length_singleton]; omega)
      refine ⟨y5, y6, ?_⟩
      have e2 : (((x :: xs).zipIdx j).filter fun q => decide (q.1 = w)).map (fun q => (a, q.2)) = (a, j) :: ((xs.zipIdx (j + 1)).filter fun q => decide (q.1 = w)).map fun q => (a, q.2) := by
        rw [List.zipIdx_cons, List.filter_cons, if_pos (by simpa using e), List.map_cons]
      rw [e2, List.map_cons, List.append_cons]
      have st : exs (run T n k) n b_ends_of_1 [some (.fz net), some (sO w), some (.lst acc), some (sO a), x4, some (iO j), some (sO x)] = .ok .nx [some (.fz net), some (sO w), some (.lst (acc ++ [eSO (a, j)])), some (sO a), x4, some (iO j), some (sO x)] := by
        have lt : acc.length < 16777216 := by omega
        subst e
        simp [b_ends_of_1, pl, qt, qts, strRoom, hs, lt, eSO, eS]
      show aft _ (exs (run T n k) n b_ends_of_1 [some (.fz net), some (sO w), some (.lst acc), some (sO a), x4, some (iO j), some (sO x)]) = _
      rw [st, aft_nx]
      exact ih
    · obtain ⟨y5, y6, ih⟩ := ends_loop (net := net) (w := w) (a := a) (x4 := x4) (xs := xs) (j := j + 1) (acc := acc) (x5 := some (iO j)) (x6 := some (sO x)) (by omega)
      refine ⟨y5, y6, ?_⟩
      have e2 : (((x :: xs).zipIdx j).filter fun q => decide (q.1 = w)).map (fun q => (a, q.2)) = ((xs.zipIdx (j + 1)).filter fun q => decide (q.1 = w)).map fun q => (a, q.2) := by
        rw [List.zipIdx_cons, List.filter_cons, if_neg (by simpa using e)]
      rw [e2]
      have st : exs (run T n k) n b_ends_of_1 [some (.fz net), some (sO w), some (.lst acc), some (sO a), x4, some (iO j), some (sO x)] = .ok .nx [some (.fz net), some (sO w), some (.lst acc), some (sO a), x4, some (iO j), some (sO x)] := by
        simp [b_ends_of_1, pl, qt, qts, e]
      show aft _ (exs (run T n k) n b_ends_of_1 [some (.fz net), some (sO w), some (.lst acc), some (sO a), x4, some (iO j), some (sO x)]) = _
      rw [st, aft_nx]
      exact ih
theorem ends_take {R : RT} {w : Str} {i : Nat} {r : Str × List Str} (h : R[i]? = some r) : endsF (R.take (i + 1)) w = endsF (R.take i) w ++ (r.2.zipIdx.filter fun q => decide (q.1 = w)).map fun q => (r.1, q.2) := by
  unfold endsF
  rw [List.take_add_one, h, List.flatMap_append]
  simp
theorem ends_len {R : RT} {w : Str} (h : ∀ r ∈ R, r.2.length < 1000) : (endsF R w).length ≤ 1000 * R.length := by
  induction R with
  | nil => exact Nat.le_refl _
  | cons r R ih =>
    have a := ih fun x hx => h x (List.mem_cons_of_mem _ hx)
    have b := h r List.mem_cons_self
    have c : ((r.2.zipIdx.filter fun q => decide (q.1 = w)).map fun q => (r.1, q.2)).length ≤ r.2.length := by
      rw [List.length_map]
      exact Nat.le_trans (List.length_filter_le _ _) (by rw [List.length_zipIdx]; exact Nat.le_refl _)
    unfold endsF at a ⊢
    rw [List.flatMap_cons, List.length_append, List.length_cons]
    omega
theorem r_ends {posts : List Str} {R : RT} {ws : List WT} (nr : NR posts R) {w : Str} : ∃ ps : Rim.Env, run T n (k + 1) "ends_of" [.fz (netD posts R ws), sO w] = .ok (.lst ((endsF R w).map eSO)) ps := by
  rw [show ("ends_of" : Str) = d_ends_of.name from rfl, run_b nodupT (by simp [T]) rfl]
  have hs : sizeLine = 16777216 := by decide
  obtain ⟨e1, g1, y3, y4, y5, y6, rfl⟩ := fo_inv (F := run T n k) (n := n) (tg := .tp (.nm 3) (.nm 4)) (b := b_ends_of_2) (ds := R.map rwD) (k := 0) (e := [some (.fz (netD posts R ws)), some (sO w), some (.lst []), none, none, none, none])
    (fun i e => ∃ y3 y4 y5 y6, e = [some (.fz (netD posts R ws)), some (sO w), some (.lst ((endsF (R.take i) w).map eSO)), y3, y4, y5, y6]) ⟨none, none, none, none, rfl⟩ (fun i e d hd hp => by
      rw [Nat.zero_add] at hp ⊢
      obtain ⟨y3, y4, y5, y6, rfl⟩ := hp
      rw [List.getElem?_map] at hd
      obtain ⟨r, hr, rfl⟩ := Option.map_eq_some_iff.mp hd
      have l0 := ends_len (R := R.take i) (w := w) fun x hx => Nat.lt_of_le_of_lt (nr.l3 x (List.mem_of_mem_take hx)) (by decide)
      have l1 := nr.l2
      have l3 := nr.l3 r (List.mem_of_getElem? hr)
      rw [List.length_take] at l0
      obtain ⟨z5, z6, g⟩ := ends_loop (n := n) (k := k) (net := netD posts R ws) (w := w) (a := r.1) (x4 := some (.fz (lsD r.2))) (xs := r.2) (j := 0) (acc := (endsF (R.take i) w).map eSO) (x5 := y5) (x6 := y6) (by rw [List.length_map]; omega)
      rw [ends_take hr, List.map_append]
      refine ⟨_, [some (.fz (netD posts R ws)), some (sO w), some (.lst ((endsF (R.take i) w).map eSO ++ (((r.2.zipIdx).filter fun q => decide (q.1 = w)).map fun q => (r.1, q.2)).map eSO)), some (sO r.1), some (.fz (lsD r.2)), z5, z6], rfl, .inl ?_, _, _, _, _, rfl⟩
      rw [b_ends_of_2, exs_cons, ex_forr, evIt_enum, ev_var]
      show thn2 _ (fo (run T n k) n (.tp (.nm 5) (.nm 6)) b_ends_of_1 _ [some (.fz (netD posts R ws)), some (sO w), some (.lst ((endsF (R.take i) w).map eSO)), some (sO r.1), some (.fz (lsD r.2)), y5, y6]) = _
      rw [g, thn2_nx, exs_nil])
  rw [Nat.zero_add, List.length_map, List.take_length] at g1
  refine ⟨[some (.fz (netD posts R ws)), some (sO w)], ?_⟩
  unfold netD at *
  generalize (endsF R w).map eSO = eO at *
  generalize lsD posts = pD at *
  generalize PyData.list (ws.map wD) = wD' at *
  generalize R.map rwD = rD at *
  generalize hq : runB _ _ _ _ _ _ = q
  simp [runB, d_ends_of, b_ends_of, pl, qt, atI_pos, g1, strRoom, hs, asSs, asS, tgS, wipeE] at hq
  exact hq.symm
/-! ### mates by name -/
abbrev MS := List ((Str × Nat) × (Str × Nat))
def eSK (c : Str × Nat) : List Key := [.inr c.1, .inl (c.2 : Int)]
def mS (m : MS) : List (List Key × O) := m.map fun e => (eSK e.1, eSO e.2)
def fS (f : List (Str × (Str × Nat))) : List (Key × O) := f.map fun e => (Sum.inr e.1, eSO e.2)
theorem eSK_inj : ∀ a b : Str × Nat, eSK a = eSK b → a = b := fun a b h => by
  unfold eSK at h
  injection h with h1 h2
  injection h2 with h2 _
  have := Sum.inl.inj h2
  exact Prod.ext (Sum.inr.inj h1) (by omega)
theorem get_mS {m : MS} {e : Str × Nat} : get1 (mS m) (eSK e) = (get1 m e).map eSO := get1_map (f := eSK) (g := eSO) eSK_inj
theorem put_mS {m : MS} {e e' : Str × Nat} : put1 (mS m) (eSK e) (eSO e') = mS (put1 m e e') := put1_map (f := eSK) (g := eSO) eSK_inj
theorem get_fS {f : List (Str × (Str × Nat))} {w : Str} : get1 (fS f) (Sum.inr w) = (get1 f w).map eSO := get1_map (f := fun a : Str => (Sum.inr a : Key)) (g := eSO) inr_inj
theorem put_fS {f : List (Str × (Str × Nat))} {w : Str} {e : Str × Nat} : put1 (fS f) (Sum.inr w) (eSO e) = fS (put1 f w e) := put1_map (f := fun a : Str => (Sum.inr a : Key)) (g := eSO) inr_inj
theorem keyT_eS {e : Str × Nat} : keyTO (eS e) = some (eSK e) := rfl
theorem item_mS {m : MS} {e e' : Str × Nat} (h : get1 m e = some e') : itemO (.dt (mS m)) (eS e) = some (eSO e') := by
  show (match seqO (.dt (mS m)) (eS e) with | some o => some o | none => dictO (.dt (mS m)) (eS e)) = _
  have s : seqO (.dt (mS m)) (eS e) = none := rfl
  have d : dictO (.dt (mS m)) (eS e) = get1 (mS m) (eSK e) := rfl
  rw [s, d, get_mS, h]
  rfl
theorem item_fS {f : List (Str × (Str × Nat))} {w : Str} {e : Str × Nat} (h : get1 f w = some e) : itemO (.dk (fS f)) (.str w) = some (eSO e) := by
  show (match seqO (.dk (fS f)) (.str w) with | some o => some o | none => dictO (.dk (fS f)) (.str w)) = _
  have s : seqO (.dk (fS f)) (.str w) = none := rfl
  have d : dictO (.dk (fS f)) (.str w) = get1 (fS f) (Sum.inr w) := rfl
  rw [s, d, get_fS, h]
  rfl
theorem in_fS {f : List (Str × (Str × Nat))} {w : Str} : cmpO .isin (sO w) (.dk (fS f)) = some (get1 f w).isSome := by
  have e : cmpO .isin (sO w) (.dk (fS f)) = some (get1 (fS f) (Sum.inr w)).isSome := by
    unfold cmpO
    rw [er_fz, show er (.dk (fS f)) = .dict (erk (fS f)) by rw [er]]
    rfl
  rw [e, get_fS, Option.isSome_map]
theorem smate_turn {R : RT} {f : List (Str × (Str × Nat))} {m : MS} {p w : Str} {i : Nat} (lf_ : f.length < 1000) (lm : m.length < 1000) :
    exs (run T n k) n b_mates_of_1 [some (.fz (tkD R)), some (.dk (fS f)), some (.dt (mS m)), some (sO p), some (iO i), some (sO w)] = .ok .nx [some (.fz (tkD R)), some (.dk (fS (step (f, m) ((p, i), w)).1)), some (.dt (mS (step (f, m) ((p, i), w)).2)), some (sO p), some (iO i), some (sO w)] := by
  have hs : sizeLine = 16777216 := by decide
  have inf := in_fS (f := f) (w := w)
  have mt : mkTup [sO p, iO i] = eSO (p, i) := rfl
  rw [b_mates_of_1]
  have tup : ∀ x : Option O, ev (run T n k) false (.tup (.cons (.var 3) (.cons (.var 4) .nil))) [some (.fz (tkD R)), some (.dk (fS f)), some (.dt (mS m)), some (sO p), some (iO i), some (sO w)] = .ok (eSO (p, i)) [some (.fz (tkD R)), some (.dk (fS f)), some (.dt (mS m)), some (sO p), some (iO i), some (sO w)] := fun _ => by
    generalize tkD R = tn at *
    generalize fS f = fo_ at *
    generalize mS m = mo at *
    simp [mt, strRoom, hs]
    rfl
  cases hf : get1 f w with
  | some e0 =>
    have st : step (f, m) ((p, i), w) = (f, put1 (put1 m (p, i) e0) e0 (p, i)) := by
      unfold Gn.step
      simp only [hf]
    rw [st]
    rw [hf] at inf
    have it := item_fS hf
    have ixv : ∀ mo : List (List Key × O), ev (run T n k) false (.ix (.var 1) (.var 5)) [some (.fz (tkD R)), some (.dk (fS f)), some (.dt mo), some (sO p), some (iO i), some (sO w)] = .ok (eSO e0) [some (.fz (tkD R)), some (.dk (fS f)), some (.dt mo), some (sO p), some (iO i), some (sO w)] := fun mo => by
      generalize tkD R = tn at *
      have z : isFz (eSO e0) = true := rfl
      generalize fS f = fo_ at *
      simp [pl, qt, it, z]
    have p1 := put_dt (n := n) (i := 2) (kE := .tup (.cons (.var 3) (.cons (.var 4) .nil))) (a := .ix (.var 1) (.var 5)) (d := eS (p, i)) (kk := eSK (p, i)) (ixv (mS m)) rfl (tup none) rfl keyT_eS (by unfold mS; rw [List.length_map, hs]; omega)
    have tup2 : ev (run T n k) false (.tup (.cons (.var 3) (.cons (.var 4) .nil))) [some (.fz (tkD R)), some (.dk (fS f)), some (.dt (mS (put1 m (p, i) e0))), some (sO p), some (iO i), some (sO w)] = .ok (eSO (p, i)) [some (.fz (tkD R)), some (.dk (fS f)), some (.dt (mS (put1 m (p, i) e0))), some (sO p), some (iO i), some (sO w)] := by
      generalize tkD R = tn at *
      generalize fS f = fo_ at *
      generalize mS (put1 m (p, i) e0) = mo at *
      simp [mt, strRoom, hs]
      rfl
    have lp := put1_len (k := (p, i)) (v := e0) (L := m)
    have p2 := put_dt (n := n) (i := 2) (kE := .ix (.var 1) (.var 5)) (a := .tup (.cons (.var 3) (.cons (.var 4) .nil))) (d := eS e0) (kk := eSK e0) tup2 rfl (ixv (mS (put1 m (p, i) e0))) rfl keyT_eS (by unfold mS; rw [List.length_map, hs]; omega)
    rw [put_mS] at p1 p2
    change ex (run T n k) n (.put (.nm 2) (.tup (.cons (.var 3) (.cons (.var 4) .nil))) (.ix (.var 1) (.var 5))) _ = .ok .nx [some (.fz (tkD R)), some (.dk (fS f)), some (.dt (mS (put1 m (p, i) e0))), some (sO p), some (iO i), some (sO w)] at p1
    change ex (run T n k) n (.put (.nm 2) (.ix (.var 1) (.var 5)) (.tup (.cons (.var 3) (.cons (.var 4) .nil)))) _ = .ok .nx [some (.fz (tkD R)), some (.dk (fS f)), some (.dt (mS (put1 (put1 m (p, i) e0) e0 (p, i)))), some (sO p), some (iO i), some (sO w)] at p2
    have cnd : ex (run T n k) n (.ite (.cmp .isin (.var 5) (.var 1)) (.cons (.put (.nm 2) (.tup (.cons (.var 3) (.cons (.var 4) .nil))) (.ix (.var 1) (.var 5))) (.cons (.put (.nm 2) (.ix (.var 1) (.var 5)) (.tup (.cons (.var 3) (.cons (.var 4) .nil)))) .nil)) (.cons (.put (.nm 1) (.var 5) (.tup (.cons (.var 3) (.cons (.var 4) .nil)))) .nil)) [some (.fz (tkD R)), some (.dk (fS f)), some (.dt (mS m)), some (sO p), some (iO i), some (sO w)]
        = exs (run T n k) n (.cons (.put (.nm 2) (.tup (.cons (.var 3) (.cons (.var 4) .nil))) (.ix (.var 1) (.var 5))) (.cons (.put (.nm 2) (.ix (.var 1) (.var 5)) (.tup (.cons (.var 3) (.cons (.var 4) .nil)))) .nil)) [some (.fz (tkD R)), some (.dk (fS f)), some (.dt (mS m)), some (sO p), some (iO i), some (sO w)] := by
      rw [ex_ite]
      generalize tkD R = tn at *
      generalize fS f = fo_ at *
      generalize hmo : mS m = mo at *
      simp [pl, qt, inf, -ex_put, -exs_cons]
    rw [exs_cons, cnd, exs_cons, p1, thn2_nx, exs_cons, p2, thn2_nx, exs_nil, thn2_nx, exs_nil]
  | none =>
    have st : step (f, m) ((p, i), w) = (put1 f w (p, i), m) := by
      unfold Gn.step
      simp only [hf]
    rw [st]
    rw [hf] at inf
    have p1 := put_dk (n := n) (i := 1) (kE := .var 5) (a := .tup (.cons (.var 3) (.cons (.var 4) .nil))) (d := .str w) (kk := Sum.inr w) (kvs := fS f) (tup none) rfl (by simp) rfl rfl (by unfold fS; rw [List.length_map, hs]; omega)
    rw [put_fS] at p1
    change ex (run T n k) n (.put (.nm 1) (.var 5) (.tup (.cons (.var 3) (.cons (.var 4) .nil)))) _ = .ok .nx [some (.fz (tkD R)), some (.dk (fS (put1 f w (p, i)))), some (.dt (mS m)), some (sO p), some (iO i), some (sO w)] at p1
    have cnd : ex (run T n k) n (.ite (.cmp .isin (.var 5) (.var 1)) (.cons (.put (.nm 2) (.tup (.cons (.var 3) (.cons (.var 4) .nil))) (.ix (.var 1) (.var 5))) (.cons (.put (.nm 2) (.ix (.var 1) (.var 5)) (.tup (.cons (.var 3) (.cons (.var 4) .nil)))) .nil)) (.cons (.put (.nm 1) (.var 5) (.tup (.cons (.var 3) (.cons (.var 4) .nil)))) .nil)) [some (.fz (tkD R)), some (.dk (fS f)), some (.dt (mS m)), some (sO p), some (iO i), some (sO w)]
        = exs (run T n k) n (.cons (.put (.nm 1) (.var 5) (.tup (.cons (.var 3) (.cons (.var 4) .nil)))) .nil) [some (.fz (tkD R)), some (.dk (fS f)), some (.dt (mS m)), some (sO p), some (iO i), some (sO w)] := by
      rw [ex_ite]
      generalize tkD R = tn at *
      generalize hfo : fS f = fo_ at *
      generalize hmo : mS m = mo at *
      simp [pl, qt, inf, -ex_put, -exs_cons]
    rw [exs_cons, cnd, exs_cons, p1, thn2_nx, exs_nil, thn2_nx, exs_nil]
section
variable {posts : List Str} {R : RT} {ws : List WT}
theorem lock_keys0 {x1 x2 x3 x4 x5 : Option O} : evIt (run T n k) (.seq (.lkv 0)) [some (.fz (tkD R)), x1, x2, x3, x4, x5] = .ok ((R.map (·.1)).map PyData.str) [some (.fz (tkD R)), x1, x2, x3, x4, x5] := by
  unfold tkD
  simp
  intro a b _
  rfl
theorem r_smates (nr : NR posts R) : ∃ (m : MS) (ps : Rim.Env), Mates R m ∧ run T n (k + 1) "mates_of" [.fz (tkD R)] = .ok (.dt (mS m)) ps := by
  rw [show ("mates_of" : Str) = d_mates_of.name from rfl, run_b nodupT (by simp [T]) rfl]
  have few := nr.few
  have es := nr.ends
  obtain ⟨e1, g1, f, m, x3, x4, x5, rfl, sc, _, _⟩ := fo_inv (F := run T n k) (n := n) (tg := .nm 3) (b := b_mates_of_2) (ds := (R.map (·.1)).map PyData.str) (k := 0) (e := [some (.fz (tkD R)), some (.dk []), some (.dt []), none, none, none])
    (fun i e => ∃ (f : List (Str × (Str × Nat))) (m : MS) (x3 x4 x5 : Option O), e = [some (.fz (tkD R)), some (.dk (fS f)), some (.dt (mS m)), x3, x4, x5] ∧ Sc (endsG (R.take i)) f m ∧ f.length ≤ (endsG (R.take i)).length ∧ m.length ≤ 2 * (endsG (R.take i)).length)
    ⟨[], [], none, none, none, rfl, Sc.nil, Nat.zero_le _, Nat.zero_le _⟩ (fun i e d hd hp => by
      rw [Nat.zero_add] at hp ⊢
      obtain ⟨f, m, x3, x4, x5, rfl, sc, lf1, lm1⟩ := hp
      rw [List.map_map, List.getElem?_map] at hd
      obtain ⟨r, hr, rfl⟩ := Option.map_eq_some_iff.mp hd
      have mr := List.mem_of_getElem? hr
      have nr' : R[i]? = some (r.1, r.2) := hr
      obtain ⟨e2, g2, f2, m2, y4, y5, rfl, sc2, lf2, lm2⟩ := fo_inv (F := run T n k) (n := n) (tg := .tp (.nm 4) (.nm 5)) (b := b_mates_of_1) (ds := (r.2.map PyData.str).zipIdx.map fun p => .tuple [.int p.2, p.1]) (k := 0) (e := [some (.fz (tkD R)), some (.dk (fS f)), some (.dt (mS m)), some (sO r.1), x4, x5])
        (fun j e => ∃ (f : List (Str × (Str × Nat))) (m : MS) (x4 x5 : Option O), e = [some (.fz (tkD R)), some (.dk (fS f)), some (.dt (mS m)), some (sO r.1), x4, x5] ∧ Sc (pre R i j r.1 r.2) f m ∧ f.length ≤ (pre R i j r.1 r.2).length ∧ m.length ≤ 2 * (pre R i j r.1 r.2).length)
        ⟨f, m, x4, x5, rfl, by rw [pre_zero]; exact sc, by rw [pre_zero]; exact lf1, by rw [pre_zero]; exact lm1⟩ (fun j e d hd hp => by
          rw [Nat.zero_add] at hp ⊢
          obtain ⟨f, m, x4, x5, rfl, sc, lf1, lm1⟩ := hp
          rw [List.getElem?_map, List.getElem?_zipIdx, List.getElem?_map, Option.map_map, Option.map_map, Nat.zero_add] at hd
          obtain ⟨w, hw2, rfl⟩ := Option.map_eq_some_iff.mp hd
          have pl1 := pre_le (j := j) nr'
          have st := smate_turn (n := n) (k := k) (R := R) (f := f) (m := m) (p := r.1) (w := w) (i := j) (by omega) (by omega)
          have sl := step_len (f := f) (m := m) (x := ((r.1, j), w))
          have sc' := scan_step nr.keys es nr' hw2 sc
          refine ⟨[some (.fz (tkD R)), some (.dk (fS f)), some (.dt (mS m)), some (sO r.1), some (iO j), some (sO w)], _, rfl, .inl st, _, _, some (iO j), some (sO w), rfl, sc', ?_, ?_⟩
          · rw [pre_snoc hw2, List.length_append, List.length_singleton]; omega
          · rw [pre_snoc hw2, List.length_append, List.length_singleton]; omega)
      rw [Nat.zero_add, List.length_map, List.length_zipIdx, List.length_map, pre_done nr'] at sc2 lf2 lm2
      refine ⟨_, [some (.fz (tkD R)), some (.dk (fS f2)), some (.dt (mS m2)), some (sO r.1), y4, y5], rfl, .inl ?_, f2, m2, _, _, _, rfl, sc2, lf2, lm2⟩
      have i1 := item_tk (get1_of nr.keys mr)
      have it : evIt (run T n k) (.enum (.ix (.var 0) (.var 3))) [some (.fz (tkD R)), some (.dk (fS f)), some (.dt (mS m)), some (sO r.1), x4, x5] = .ok ((r.2.map PyData.str).zipIdx.map fun p => .tuple [.int p.2, p.1]) [some (.fz (tkD R)), some (.dk (fS f)), some (.dt (mS m)), some (sO r.1), x4, x5] := by
        generalize tkD R = tn at *
        generalize fS f = fo_ at *
        generalize mS m = mo at *
        simp [pl, qt, i1]
      rw [b_mates_of_2, exs_cons, ex_forr]
      show thn2 _ ((evIt (run T n k) (.enum (.ix (.var 0) (.var 3))) [some (.fz (tkD R)), some (.dk (fS f)), some (.dt (mS m)), some (sO r.1), x4, x5]).bind _) = _
      rw [it, bind_ok_, g2, thn2_nx, exs_nil])
  rw [Nat.zero_add, List.length_map, List.length_map, List.take_length] at sc
  refine ⟨m, [some (.fz (tkD R))], nr.mt sc.ms, ?_⟩
  have lk := lock_keys0 (n := n) (k := k) (x1 := some (.dk [])) (x2 := some (.dt [])) (x3 := none) (x4 := none) (x5 := none) (R := R)
  generalize (R.map (·.1)).map PyData.str = ks at *
  generalize mS m = mo at *
  generalize fS f = fo_ at *
  generalize tkD R = tn at *
  generalize hq : runB _ _ _ _ _ _ = q
  simp [runB, d_mates_of, b_mates_of, pl, qt, lk, g1, asSs, asS, tgS, wipeE, -ev_lkv, -evIt_seq] at hq
  exact hq.symm
theorem r_other (nr : NR posts R) {e e' : Str × Nat} {s : Str} (he : (e, s) ∈ endsG R) (he' : (e', s) ∈ endsG R) (ne : e ≠ e') : ∃ ps : Rim.Env, run T n (k + 2) "other_end" [.fz (netD posts R ws), .fz (eS e)] = .ok (eSO e') ps := by
  rw [show ("other_end" : Str) = d_other_end.name from rfl, run_b nodupT (by simp [T]) rfl]
  obtain ⟨ps0, gt⟩ := r_turns (n := n) (k := k) (ws := ws) nr
  obtain ⟨m, ps1, hm, gm⟩ := r_smates (n := n) (k := k) nr
  have it : ((keyTO (eS e)).bind fun kk => get1 (mS m) kk) = some (eSO e') := by
    show get1 (mS m) (eSK e) = _
    rw [get_mS, hm.ms e s e' he he' ne]
    rfl
  have lkd : O.fz (.dict ((.none, .bool true) :: erk (R.map kvF))) = .fz (tkD R) := by
    rw [erk_kv]
    rfl
  have fz : isFz (eSO e') = true := rfl
  refine ⟨[some (.fz (netD posts R ws)), some (.fz (eS e))], ?_⟩
  generalize netD posts R ws = nD at *
  generalize eS e = ee at *
  generalize eSO e' = eo at *
  generalize mS m = mo at *
  generalize tkD R = tn at *
  generalize R.map kvF = kv at *
  generalize hq : runB _ _ _ _ _ _ = q
  simp [runB, d_other_end, b_other_end, pl, qt, hasBor, backAr, Ar.o, gt, lkd, gm, it, fz, asSs, asS, tgS, wipeE] at hq
  exact hq.symm
end
end
end K11
namespace K11
open PySem PySem.Spec PyProof.Rows L2 Rim Lp Gn
section
variable {n k : Nat}
theorem r_copy {posts : List Str} {R : RT} {ws : List WT} (nr : NR posts R) : ∃ (o : O) (ps : Rim.Env), er o = netD posts R ws ∧ run T n (k + 1) "_law_copy" [.fz (netD posts R ws)] = .ok o ps := by
  rw [show ("_law_copy" : Str) = d_law_copy.name from rfl, run_b nodupT (by simp [T]) rfl]
  have hs : sizeLine = 16777216 := by decide
  have cc : co (run T n k) (.tp (.nm 1) (.nm 2)) [1, 2] .no (.tup (.cons (.var 1) (.cons (.bl1 .list (.var 2)) .nil))) (R.map rwD) [some (.fz (netD posts R ws)), none, none] = .ok (R.map fun r => .tup [sO r.1, .lst ((r.2.map PyData.str).map O.fz)]) [some (.fz (netD posts R ws)), none, none] := by
    have z := co_map2 (F := run T n k) (v := 1) (u := 2) (elt := .tup (.cons (.var 1) (.cons (.bl1 .list (.var 2)) .nil))) (e := [some (.fz (netD posts R ws)), none, none]) (g := fun a b => match b with | .list ds => .tup [.fz a, .lst (ds.map O.fz)] | _ => .fz a) rfl rfl (by decide) (ps := R.map fun r => (PyData.str r.1, lsD r.2)) (fun p hp => by
      obtain ⟨r, hr, rfl⟩ := List.mem_map.mp hp
      generalize netD posts R ws = nD at *
      have lt : bl1O .list (.fz (lsD r.2)) = some (.lst ((r.2.map PyData.str).map O.fz)) := rfl
      generalize hrr : (r.2.map PyData.str).map O.fz = rr at *
      have mt : mkTup [sO r.1, .lst rr] = .tup [sO r.1, .lst rr] := rfl
      simp [pl, qt, lt, mt, strRoom, hs]
      rw [← hrr, List.map_map])
    rw [List.map_map, List.map_map] at z
    exact z
  have lR : (R.map fun r => O.tup [sO r.1, .lst ((r.2.map PyData.str).map O.fz)]).length ≤ 16777216 := by
    have := nr.l2
    rw [List.length_map]; omega
  have eR : ers (R.map fun r => O.tup [sO r.1, .lst ((r.2.map PyData.str).map O.fz)]) = R.map rwD := by
    rw [ers_map2]
    refine List.map_congr_left fun r _ => ?_
    rw [er_tup, ers_cons, ers_cons, ers_nil, er_fz, er_lst, ers_map]
    rfl
  have er0 : er (.tup [.lst ((posts.map PyData.str).map O.fz), .lst (R.map fun r => O.tup [sO r.1, .lst ((r.2.map PyData.str).map O.fz)]), .lst ((ws.map wD).map O.fz)]) = netD posts R ws := by
    rw [er_tup, ers_cons, ers_cons, ers_cons, ers_nil, er_lst, er_lst, er_lst, ers_map, ers_map, eR]
  refine ⟨_, [some (.fz (netD posts R ws))], er0, ?_⟩
  have l1 : bl1O .list (.fz (lsD posts)) = some (.lst ((posts.map PyData.str).map O.fz)) := rfl
  have l2 : bl1O .list (.fz (.list (ws.map wD))) = some (.lst ((ws.map wD).map O.fz)) := rfl
  unfold netD at *
  generalize (posts.map PyData.str).map O.fz = pO at *
  generalize (ws.map wD).map O.fz = wO_ at *
  generalize (R.map fun r => O.tup [sO r.1, .lst ((r.2.map PyData.str).map O.fz)]) = rO at *
  generalize lsD posts = pD at *
  generalize PyData.list (ws.map wD) = wD' at *
  generalize R.map rwD = rD at *
  have mt : mkTup [.lst pO, .lst rO, .lst wO_] = .tup [.lst pO, .lst rO, .lst wO_] := rfl
  generalize hq : runB _ _ _ _ _ _ = q
  simp [runB, d_law_copy, b_law_copy, pl, qt, atI_pos, l1, l2, cc, mt, lR, strRoom, hs, asSs, asS, tgS, wipeE] at hq
  exact hq.symm
theorem shp_es {xs : List (Str × Nat)} (h : ∀ q ∈ xs, PyData.strOk q.1 = true) {m : Nat} : shp (m + 3) (.list (xs.map eS)) = true := by
  rw [shp_list, List.all_eq_true]
  intro d hd
  obtain ⟨q, hq, rfl⟩ := List.mem_map.mp hd
  have := h q hq
  unfold eS
  simp [this]
theorem ers_es {xs : List (Str × Nat)} : ers (xs.map eSO) = xs.map eS := by
  rw [ers_map2]
  exact List.map_congr_left fun x _ => er_fz
theorem r_tuples {xs : List (Str × Nat)} {due : O} (h : ∀ q ∈ xs, PyData.strOk q.1 = true) (hd : due = .fz (.list (xs.map eS)) ∨ due = .lst (xs.map eSO)) : ∃ ps : Rim.Env, run T n (k + 1) "_law_tuples" [.fz (.list (xs.map eS)), due] = .ok (.fz (.bool true)) ps := by
  rw [show ("_law_tuples" : Str) = d_law_tuples.name from rfl, run_b nodupT (by simp [T]) rfl]
  have sh := shp_es h (m := 61)
  have vv := eqv_refl (shp_lay sh)
  have cm : cmpO .ne (.fz (.list (xs.map eS))) due = some false := by
    rcases hd with rfl | rfl
    · rw [c_neD sh sh, vv]
      rfl
    · rw [cmp_lstR, ers_es, c_neD sh sh, vv]
      rfl
  obtain ⟨e1, g1, y2, rfl⟩ := fo_inv (F := run T n k) (n := n) (tg := .nm 2) (b := b_law_tuples_1) (ds := xs.map eS) (k := 0) (e := [some (.fz (.list (xs.map eS))), some due, none])
    (fun i e => ∃ y2, e = [some (.fz (.list (xs.map eS))), some due, y2]) ⟨none, rfl⟩ (fun i e d hd hp => by
      obtain ⟨y2, rfl⟩ := hp
      rw [List.getElem?_map] at hd
      obtain ⟨q, hq, rfl⟩ := Option.map_eq_some_iff.mp hd
      refine ⟨_, [some (.fz (.list (xs.map eS))), some due, some (.fz (eS q))], rfl, .inl ?_, _, rfl⟩
      have i0 : itemO (.fz (eS q)) (.int 0) = some (sO q.1) := rfl
      have i1 : itemO (.fz (eS q)) (.int 1) = some (iO q.2) := rfl
      have a0 : isiO (eS q) .tuple = some true := rfl
      have a1 : isiO (.str q.1) .str = some true := rfl
      have a2 : isiO (.int q.2) .bool = some false := rfl
      show exs _ n b_law_tuples_1 [some (.fz (.list (xs.map eS))), some due, some (.fz (eS q))] = _
      generalize PyData.list (xs.map eS) = xl at *
      generalize eS q = eq at *
      simp [b_law_tuples_1, pl, qt, qts, i0, i1, a0, a1, a2])
  have s1 : isiO (.list (xs.map eS)) .list = some true := rfl
  refine ⟨[some (.fz (.list (xs.map eS))), some due], ?_⟩
  generalize hxl : xs.map eS = xl at *
  generalize hq : runB _ _ _ _ _ _ = q
  simp [runB, d_law_tuples, b_law_tuples, pl, qt, qts, s1, cm, g1, asSs, asS, tgS, wipeE, -c_neD, -cmp_lstL, -cmp_lstR] at hq
  exact hq.symm
/-! ### ends gathered -/
def gO (D : List (Str × List (Str × Nat))) : List (Key × O) := D.map fun q => (Sum.inr q.1, .lst (q.2.map eSO))
theorem get_g {D : List (Str × List (Str × Nat))} {w : Str} : get1 (gO D) (Sum.inr w) = (get1 D w).map fun es => .lst (es.map eSO) := get1_map (f := fun a : Str => (Sum.inr a : Key)) (g := fun es : List (Str × Nat) => O.lst (es.map eSO)) inr_inj
theorem put_g {D : List (Str × List (Str × Nat))} {w : Str} {es : List (Str × Nat)} : put1 (gO D) (Sum.inr w) (.lst (es.map eSO)) = gO (put1 D w es) := put1_map (f := fun a : Str => (Sum.inr a : Key)) (g := fun es : List (Str × Nat) => O.lst (es.map eSO)) inr_inj
theorem put_put {κ α : Type} [DecidableEq κ] {k : κ} {u v : α} : ∀ {L : List (κ × α)}, put1 (put1 L k u) k v = put1 L k v
  | [] => by
    show put1 [(k, u)] k v = [(k, v)]
    unfold put1
    rw [if_pos rfl]
  | e :: L => by
    by_cases h : e.1 = k
    · have e1 : ∀ x, put1 (e :: L) k x = (e.1, x) :: L := fun x => by
        conv => lhs; unfold put1
        rw [if_pos h]
      rw [e1, e1]
      conv => lhs; unfold put1
      rw [if_pos h]
    · have e1 : ∀ x, put1 (e :: L) k x = e :: put1 L k x := fun x => by
        conv => lhs; unfold put1
        rw [if_neg h]
      rw [e1, e1]
      conv => lhs; unfold put1
      rw [if_neg h, put_put]
theorem sdf_ok {F : Fns} {e : Rim.Env} {i : Nat} {kE vE : E} {D : List (Str × List (Str × Nat))} {w : Str} {q : Str × Nat} {b : Bool} (he : e[i]? = some (some (.dk (gO D)))) (hk : ev F false kE e = .ok (sO w) e) (hv : ∀ D', ev F false vE (e.set i (some (.dk (gO D')))) = .ok (eSO q) (e.set i (some (.dk (gO D'))))) (qk : qt kE = true) (qv : qt vE = true) (hl : D.length < 1000) (hl2 : ∀ es, get1 D w = some es → es.length < 1000) :
    ev F b (.sdf i kE vE) e = .ok (.fz .none) (e.set i (some (.dk (gO (gat D (q, w)))))) := by
  have hs : sizeLine = 16777216 := by decide
  have ll : decide ((gO D).length < sizeLine) = true := decide_eq_true (by unfold gO; rw [List.length_map, hs]; omega)
  rw [ev_sdf, he]
  simp only [qk, qv, ll, Bool.and_self, if_true, hk]
  have kw : Rim.keyOf (PyData.str w) = some (Sum.inr w) := rfl
  simp only [Rs.calm, Rs.bind, er_fz, kw]
  have key : ∃ D' es, sdfK (gO D) (Sum.inr w) = gO D' ∧ get1 D' w = some es ∧ es.length < 1000 ∧ put1 D' w (es ++ [q]) = gat D (q, w) := by
    unfold sdfK gat
    rw [get_g]
    cases hg : get1 D w with
    | some es =>
      refine ⟨D, es, rfl, hg, hl2 es hg, ?_⟩
      simp only [hg]
      rfl
    | none =>
      refine ⟨put1 D w [], [], ?_, ?_, by decide, ?_⟩
      · exact put_g (es := [])
      · rw [get1_put1, if_pos rfl]
      · simp only [hg]
        rw [put_put]
        rfl
  obtain ⟨D', es, h1, h2, h3, h4⟩ := key
  rw [h1, get_g, h2]
  simp only [Option.map_some]
  rw [hv D']
  have mt : mutO .append (es.map eSO) [eSO q] = some ((es ++ [q]).map eSO, .fz .none) := by
    simp only [mutO]
    rw [decide_eq_true (by rw [List.length_map, hs]; omega), if_pos rfl, List.map_append]
    rfl
  simp only [Rs.bind, mt]
  rw [put_g, h4]
theorem gat_sum {E : Type} {D : List (Str × List E)} {S : List (E × Str)} (h : Ga S D) {w : Str} {es : List E} (g : get1 D w = some es) : es.length ≤ S.length := by
  rw [h.g w] at g
  split at g
  · cases g
  · cases g
    rw [List.length_map]
    exact List.length_filter_le ..
theorem ga_len {E : Type} {S : List (E × Str)} {D : List (Str × List E)} (h : Ga S D) : D.length ≤ S.length := by
  have a : ∀ s ∈ D.map (·.1), s ∈ S.map (·.2) := fun s hs => by
    obtain ⟨es, he⟩ := get1_key hs
    rw [h.g s] at he
    split at he
    · cases he
    · rename_i ne
      cases hf : S.filter fun x => decide (x.2 = s) with
      | nil => exact absurd hf ne
      | cons x xs =>
        have m : x ∈ S.filter fun x => decide (x.2 = s) := by rw [hf]; exact List.mem_cons_self
        obtain ⟨m1, m2⟩ := List.mem_filter.mp m
        have : x.2 = s := by simpa using m2
        exact List.mem_map.mpr ⟨x, m1, this⟩
  have z := nodup_le h.nd a
  rwa [List.length_map, List.length_map] at z
theorem row_at {xs : List Str} {i : Nat} {w : Str} (h : xs[i]? = some w) : itemO (.fz (lsD xs)) (.int (i : Int)) = some (sO w) := by
  have a : atI (xs.map PyData.str) (i : Int) = some (.str w) := by
    rw [atI_pos (by omega), Int.toNat_natCast, List.getElem?_map, h]
    rfl
  show (match (atI (xs.map PyData.str) (i : Int)).map O.fz with | some o => some o | none => _) = _
  rw [a]
  rfl
section
variable {posts : List Str} {R : RT} {ws : List WT}
theorem corN_ok (nr : NR posts R) : ∀ q ∈ corN posts R, PyData.strOk q.1 = true := fun q hq => by
  obtain ⟨r, hr, h2⟩ := List.mem_flatMap.mp hq
  obtain ⟨j, _, rfl⟩ := List.mem_map.mp h2
  exact (nr.tr r hr).1
theorem end_ok (nr : NR posts R) {e : Str × Nat} {s : Str} (h : (e, s) ∈ endsG R) : PyData.strOk e.1 = true := by
  obtain ⟨a, i⟩ := e
  obtain ⟨r, h1, _⟩ := mem_ends.mp h
  exact (nr.tr _ h1).1
theorem row_due (nr : NR posts R) {i : Nat} {r : Str × List Str} (hr : R[i]? = some r) {D : List (Str × List (Str × Nat))} (ga : Ga (endsG (R.take i)) D) {x2 y7 : Option O} : ∃ (D' : List (Str × List (Str × Nat))) (z7 : Option O), Ga (endsG (R.take (i + 1))) D' ∧ exs (run T n (k + 2)) n b_law_right_2 [some (.fz (netD posts R ws)), some (.fz (netD posts R ws)), x2, some (.fz (.list ((corN posts (R.take i)).map eS))), some (.dk (gO D)), some (sO r.1), some (.fz (lsD r.2)), y7, none, none, none, none, none] = .ok .nx [some (.fz (netD posts R ws)), some (.fz (netD posts R ws)), x2, some (.fz (.list ((corN posts (R.take (i + 1))).map eS))), some (.dk (gO D')), some (sO r.1), some (.fz (lsD r.2)), z7, none, none, none, none, none] := by
  have hs : sizeLine = 16777216 := by decide
  have mr := List.mem_of_getElem? hr
  have cl := cnt_le nr mr
  have few := nr.few
  have nr' : R[i]? = some (r.1, r.2) := hr
  have kc : rngOk (cnt posts r : Int) = true := Nat.ble_eq_true_of_le (by omega)
  have l30 := nr.l3 r mr
  have kr : rngOk (r.2.length : Int) = true := Nat.ble_eq_true_of_le (by omega)
  have snoc : corN posts (R.take (i + 1)) = corN posts (R.take i) ++ (List.range (cnt posts r)).map fun j => (r.1, j) := by
    unfold corN
    rw [take_snoc hr, List.flatMap_append, List.flatMap_cons, List.flatMap_nil, List.append_nil]
  have le1 := corN_le (posts := posts) (R' := R.take i) fun x hx => cnt_le nr (List.mem_of_mem_take hx)
  rw [List.length_take] at le1
  have l2 := nr.l2
  have i1 := (in_list (nr.tr r mr).1 nr.tp).1
  have ln : bl1O .len (.fz (lsD r.2)) = some (iO r.2.length) := by
    show some (O.fz (.int (((r.2.map PyData.str).length : Nat) : Int))) = _
    rw [List.length_map]
  have i0 : itemO (.fz (netD posts R ws)) (.int 0) = some (.fz (lsD posts)) := rfl
  have bi1 : bl1O .int (.fz (.bool true)) = some (iO 1) := rfl
  have bi0 : bl1O .int (.fz (.bool false)) = some (iO 0) := rfl
  have cc := co_row (F := (run T n (k + 2))) (a := r.1) (c := cnt posts r) (v := 7) (u := 5) (e := [some (.fz (netD posts R ws)), some (.fz (netD posts R ws)), x2, some (.fz (.list ((corN posts (R.take i)).map eS))), some (.dk (gO D)), some (sO r.1), some (.fz (lsD r.2)), none, none, none, none, none, none]) rfl rfl (by decide)
  have t1 : ex (run T n (k + 2)) n (.set 3 (.bin .add (.var 3) (.comp (.tup (.cons (.var 5) (.cons (.var 7) .nil))) (.nm 7) (.rng1 (.bin .add (.bl1 .len (.var 6)) (.bl1 .int (.cmp .isin (.var 5) (.ix (.var 0) (.int 0)))))) .no [7]))) [some (.fz (netD posts R ws)), some (.fz (netD posts R ws)), x2, some (.fz (.list ((corN posts (R.take i)).map eS))), some (.dk (gO D)), some (sO r.1), some (.fz (lsD r.2)), y7, none, none, none, none, none] = .ok .nx [some (.fz (netD posts R ws)), some (.fz (netD posts R ws)), x2, some (.lst ((corN posts (R.take (i + 1))).map eSO)), some (.dk (gO D)), some (sO r.1), some (.fz (lsD r.2)), none, none, none, none, none, none] := by
    rw [snoc]
    have l4 : (((List.range (cnt posts r)).map fun j => (r.1, j)).map eSO).length ≤ 16777216 := by rw [List.length_map, List.length_map, List.length_range]; omega
    have ad : binO .add (.fz (.list ((corN posts (R.take i)).map eS))) (.lst (((List.range (cnt posts r)).map fun j => (r.1, j)).map eSO)) = some (.lst ((corN posts (R.take i) ++ (List.range (cnt posts r)).map fun j => (r.1, j)).map eSO)) := by
      have f1 : Rim.listOf (.lst (((List.range (cnt posts r)).map fun j => (r.1, j)).map eSO)) = some (((List.range (cnt posts r)).map fun j => (r.1, j)).map eS) := by
        have : ((List.range (cnt posts r)).map fun j => (r.1, j)).map eSO = (((List.range (cnt posts r)).map fun j => (r.1, j)).map eS).map O.fz := by rw [List.map_map (g := O.fz)]; rfl
        rw [this]
        exact fzs_all
      have f0 : Rim.listOf (.fz (.list ((corN posts (R.take i)).map eS))) = some ((corN posts (R.take i)).map eS) := rfl
      have sr : strRoom (((corN posts (R.take i)).map eS).length + (((List.range (cnt posts r)).map fun j => (r.1, j)).map eS).length) = true := Nat.ble_eq_true_of_le (room_of (by
        simp only [List.length_map, List.length_range]
        omega))
      simp only [binO, f0, f1]
      rw [if_pos sr, List.map_append, List.map_append, List.map_map, List.map_map (g := O.fz)]
      rfl
    generalize (corN posts (R.take i) ++ (List.range (cnt posts r)).map fun j => (r.1, j)).map eSO = oS at *
    generalize ((List.range (cnt posts r)).map fun j => (r.1, j)).map eSO = oN at *
    generalize netD posts R ws = nD at *
    generalize lsD r.2 = rD at *
    generalize gO D = gd at *
    generalize hcd : PyData.list ((corN posts (R.take i)).map eS) = cd at *
    have w7 : wipeE [some (.fz nD), some (.fz nD), x2, some (.fz cd), some (.dk (gd)), some (sO r.1), some (.fz rD), y7, none, none, none, none, none] [7] = [some (.fz nD), some (.fz nD), x2, some (.fz cd), some (.dk (gd)), some (sO r.1), some (.fz rD), none, none, none, none, none, none] := rfl
    rw [ex_set, ev_bin, ev_var]
    have cv : ev (run T n (k + 2)) true (.comp (.tup (.cons (.var 5) (.cons (.var 7) .nil))) (.nm 7) (.rng1 (.bin .add (.bl1 .len (.var 6)) (.bl1 .int (.cmp .isin (.var 5) (.ix (.var 0) (.int 0)))))) .no [7]) [some (.fz nD), some (.fz nD), x2, some (.fz cd), some (.dk (gd)), some (sO r.1), some (.fz rD), y7, none, none, none, none, none] = .ok (.lst oN) [some (.fz nD), some (.fz nD), x2, some (.fz cd), some (.dk (gd)), some (sO r.1), some (.fz rD), none, none, none, none, none, none] := by
      have it7 : evIt (run T n (k + 2)) (.rng1 (.bin .add (.bl1 .len (.var 6)) (.bl1 .int (.cmp .isin (.var 5) (.ix (.var 0) (.int 0)))))) [some (.fz nD), some (.fz nD), x2, some (.fz cd), some (.dk (gd)), some (sO r.1), some (.fz rD), y7, none, none, none, none, none] = .ok (rngD 0 (cnt posts r)) [some (.fz nD), some (.fz nD), x2, some (.fz cd), some (.dk (gd)), some (sO r.1), some (.fz rD), y7, none, none, none, none, none] := by
        unfold cnt at kc ⊢
        generalize lsD posts = pD at *
        by_cases c : r.1 ∈ posts
        · rw [decide_eq_true c] at i1
          rw [if_pos c] at kc ⊢
          have e1 : ((r.2.length + 1 : Nat) : Int) = (r.2.length : Int) + 1 := by omega
          rw [e1] at kc
          simp [pl, qt, i0, i1, ln, bi1, kc]
        · rw [decide_eq_false c] at i1
          rw [if_neg c] at kc ⊢
          have e1 : ((r.2.length + 0 : Nat) : Int) = (r.2.length : Int) := by omega
          rw [e1] at kc
          simp [pl, qt, i0, i1, ln, bi0, kc]
      rw [ev_comp, it7, bind_ok_, w7, cc]
      simp [strRoom, hs, l4]
    simp only [List.getElem?_cons_zero, List.getElem?_cons_succ, isFz_fz, Bool.or_true, Bool.true_or, if_true, bind_ok_, cv, pl, Bool.not_true, Bool.false_or, ad]
    simp
  have t2 : ex (run T n (k + 2)) n (.frz 3) [some (.fz (netD posts R ws)), some (.fz (netD posts R ws)), x2, some (.lst ((corN posts (R.take (i + 1))).map eSO)), some (.dk (gO D)), some (sO r.1), some (.fz (lsD r.2)), none, none, none, none, none, none] = .ok .nx [some (.fz (netD posts R ws)), some (.fz (netD posts R ws)), x2, some (.fz (.list ((corN posts (R.take (i + 1))).map eS))), some (.dk (gO D)), some (sO r.1), some (.fz (lsD r.2)), none, none, none, none, none, none] := by
    rw [ex_frz]
    simp only [List.getElem?_cons_zero, List.getElem?_cons_succ, List.set_cons_succ, List.set_cons_zero, er_lst, ers_es]
  obtain ⟨e3, g3, D', z7, ga', rfl⟩ := fo_inv (F := (run T n (k + 2))) (n := n) (tg := .nm 7) (b := b_law_right_1) (ds := rngD 0 r.2.length) (k := 0) (e := [some (.fz (netD posts R ws)), some (.fz (netD posts R ws)), x2, some (.fz (.list ((corN posts (R.take (i + 1))).map eS))), some (.dk (gO D)), some (sO r.1), some (.fz (lsD r.2)), none, none, none, none, none, none])
    (fun j e => ∃ (D : List (Str × List (Str × Nat))) (z7 : Option O), Ga (pre R i j r.1 r.2) D ∧ e = [some (.fz (netD posts R ws)), some (.fz (netD posts R ws)), x2, some (.fz (.list ((corN posts (R.take (i + 1))).map eS))), some (.dk (gO D)), some (sO r.1), some (.fz (lsD r.2)), z7, none, none, none, none, none])
    ⟨D, none, by rw [pre_zero]; exact ga, rfl⟩ (fun j e d hd hp => by
      obtain ⟨hj, rfl⟩ := rngD_get hd
      rw [Nat.zero_add] at hp ⊢
      obtain ⟨D, z7, ga, rfl⟩ := hp
      rw [Int.zero_add]
      have hw2 : r.2[j]? = some r.2[j] := List.getElem?_eq_getElem hj
      have pl1 := pre_le (j := j) nr'
      have gl := ga_len ga
      have ra := row_at hw2
      have mt : mkTup [sO r.1, iO j] = eSO (r.1, j) := rfl
      have sd := sdf_ok (F := (run T n (k + 2))) (e := [some (.fz (netD posts R ws)), some (.fz (netD posts R ws)), x2, some (.fz (.list ((corN posts (R.take (i + 1))).map eS))), some (.dk (gO D)), some (sO r.1), some (.fz (lsD r.2)), some (iO j), none, none, none, none, none]) (i := 4) (kE := .ix (.var 6) (.var 7)) (vE := .tup (.cons (.var 5) (.cons (.var 7) .nil))) (D := D) (w := r.2[j]) (q := (r.1, j)) (b := false) rfl (by
        generalize netD posts R ws = nD at *
        generalize lsD r.2 = rD at *
        generalize gO D = gd at *
        generalize (corN posts (R.take (i + 1))).map eS = cd at *
        simp [pl, qt, ra]) (fun D' => by
        show ev _ false _ [some (.fz (netD posts R ws)), some (.fz (netD posts R ws)), x2, some (.fz (.list ((corN posts (R.take (i + 1))).map eS))), some (.dk (gO D')), some (sO r.1), some (.fz (lsD r.2)), some (iO j), none, none, none, none, none] = .ok _ [some (.fz (netD posts R ws)), some (.fz (netD posts R ws)), x2, some (.fz (.list ((corN posts (R.take (i + 1))).map eS))), some (.dk (gO D')), some (sO r.1), some (.fz (lsD r.2)), some (iO j), none, none, none, none, none]
        generalize netD posts R ws = nD at *
        generalize lsD r.2 = rD at *
        generalize gO D' = gd at *
        generalize (corN posts (R.take (i + 1))).map eS = cd at *
        simp [mt, strRoom, hs]
        exact mt) rfl rfl (by omega) fun es he => by
          have := gat_sum ga he
          omega
      refine ⟨_, [some (.fz (netD posts R ws)), some (.fz (netD posts R ws)), x2, some (.fz (.list ((corN posts (R.take (i + 1))).map eS))), some (.dk (gO (gat D ((r.1, j), r.2[j])))), some (sO r.1), some (.fz (lsD r.2)), some (iO j), none, none, none, none, none], rfl, .inl ?_, gat D ((r.1, j), r.2[j]), some (iO j), ?_, rfl⟩
      · rw [b_law_right_1, exs_cons, ex_expr]
        show thn2 _ (Rs.bind (ev _ false _ [some (.fz (netD posts R ws)), some (.fz (netD posts R ws)), x2, some (.fz (.list ((corN posts (R.take (i + 1))).map eS))), some (.dk (gO D)), some (sO r.1), some (.fz (lsD r.2)), some (iO j), none, none, none, none, none]) _) = _
        rw [sd]
        rfl
      · rw [pre_snoc hw2]
        exact ga.snoc _)
  rw [Nat.zero_add, rngD_len, pre_done nr'] at ga'
  have t3 : ex (run T n (k + 2)) n (.forr (.nm 7) (.rng1 (.bl1 .len (.var 6))) b_law_right_1) [some (.fz (netD posts R ws)), some (.fz (netD posts R ws)), x2, some (.fz (.list ((corN posts (R.take (i + 1))).map eS))), some (.dk (gO D)), some (sO r.1), some (.fz (lsD r.2)), none, none, none, none, none, none] = .ok .nx [some (.fz (netD posts R ws)), some (.fz (netD posts R ws)), x2, some (.fz (.list ((corN posts (R.take (i + 1))).map eS))), some (.dk (gO D')), some (sO r.1), some (.fz (lsD r.2)), z7, none, none, none, none, none] := by
    have it2 : evIt (run T n (k + 2)) (.rng1 (.bl1 .len (.var 6))) [some (.fz (netD posts R ws)), some (.fz (netD posts R ws)), x2, some (.fz (.list ((corN posts (R.take (i + 1))).map eS))), some (.dk (gO D)), some (sO r.1), some (.fz (lsD r.2)), none, none, none, none, none, none] = .ok (rngD 0 r.2.length) [some (.fz (netD posts R ws)), some (.fz (netD posts R ws)), x2, some (.fz (.list ((corN posts (R.take (i + 1))).map eS))), some (.dk (gO D)), some (sO r.1), some (.fz (lsD r.2)), none, none, none, none, none, none] := by
      generalize netD posts R ws = nD at *
      generalize lsD r.2 = rD at *
      generalize gO D = gd at *
      generalize (corN posts (R.take (i + 1))).map eS = cd at *
      simp [pl, qt, ln, kr]
    rw [ex_forr, it2, bind_ok_]
    exact g3
  refine ⟨D', z7, ga', ?_⟩
  rw [b_law_right_2, exs_cons, t1, thn2_nx, exs_cons, t2, thn2_nx, exs_cons, t3, thn2_nx, exs_nil]
def lkD (D : List (Str × List (Str × Nat))) : PyData := .dict ((.none, .bool true) :: erk (gO D))
theorem item_lk {D : List (Str × List (Str × Nat))} {w : Str} {es : List (Str × Nat)} (h : get1 D w = some es) : itemO (.fz (lkD D)) (.str w) = some (.fz (.list (es.map eS))) := by
  have f : ∀ D : List (Str × List (Str × Nat)), fget (erk (gO D)) (.inr w) = (get1 D w).map fun es => .list (es.map eS) := fun D => by
    induction D with
    | nil => rfl
    | cons q D ih =>
      show (if Rim.keyOf (.str q.1) = some (Sum.inr w) then some (er (.lst (q.2.map eSO))) else fget (erk (gO D)) (.inr w)) = _
      rw [show Rim.keyOf (.str q.1) = some (Sum.inr q.1) from rfl]
      unfold get1
      by_cases h : q.1 = w
      · rw [if_pos (by rw [h]), if_pos h, er_lst, ers_es]
        rfl
      · rw [if_neg (fun z => h (Sum.inr.inj (Option.some.inj z))), if_neg h]
        exact ih
  show (match seqO (.fz (lkD D)) (.str w) with | some o => some o | none => dictO (.fz (lkD D)) (.str w)) = _
  have s : seqO (.fz (lkD D)) (.str w) = none := rfl
  have d : dictO (.fz (lkD D)) (.str w) = (fget ((.none, .bool true) :: erk (gO D)) (.inr w)).map .fz := rfl
  have e : fget ((.none, .bool true) :: erk (gO D)) (.inr w) = fget (erk (gO D)) (.inr w) := by
    conv => lhs; unfold fget
    rw [show Rim.keyOf .none = none from rfl, if_neg (fun z => by cases z)]
  rw [s, d, e, f, h]
  rfl
theorem lk_keys {D : List (Str × List (Str × Nat))} : (erk (gO D)).map (·.1) = (D.map (·.1)).map PyData.str := by
  induction D with
  | nil => rfl
  | cons q D ih =>
    show keyD (.inr q.1) :: (erk (gO D)).map (·.1) = _
    rw [ih]
    rfl
theorem ne_eS {q : Str × Nat} (h : PyData.strOk q.1 = true) : cmpO .ne (eSO q) (eSO q) = some false := by
  have sh : shp 64 (eS q) = true := by
    unfold eS
    simp [h]
  show cmpO .ne (.fz (eS q)) (.fz (eS q)) = _
  rw [c_neD sh sh, eqv_refl (shp_lay sh)]
  rfl
theorem wire_due (nr : NR posts R) {D : List (Str × List (Str × Nat))} {w : Str} {e1 e2 : Str × Nat} (hg : get1 D w = some [e1, e2]) (hf : endsF R w = [e1, e2]) (m1 : (e1, w) ∈ endsG R) (m2 : (e2, w) ∈ endsG R) (ne : e1 ≠ e2) {x2 x3 x5 x6 x7 x8 x10 x11 x12 : Option O} : exs (run T n (k + 2)) n b_law_right_3 [some (.fz (netD posts R ws)), some (.fz (netD posts R ws)), x2, x3, some (.fz (lkD D)), x5, x6, x7, x8, some (sO w), x10, x11, x12] = .ok .nx [some (.fz (netD posts R ws)), some (.fz (netD posts R ws)), x2, x3, some (.fz (lkD D)), x5, x6, x7, x8, some (sO w), some (.fz (eS e1)), some (.fz (eS e2)), some (.lst [eSO e2, eSO e1])] := by
  have hs : sizeLine = 16777216 := by decide
  have it := item_lk hg
  obtain ⟨p1, ge⟩ := r_ends (n := n) (k := k + 1) (ws := ws) nr (w := w)
  rw [hf] at ge
  have o1 := end_ok nr m1
  have o2 := end_ok nr m2
  obtain ⟨p2, gt⟩ := r_tuples (n := n) (k := k + 1) (xs := [e1, e2]) (due := .lst ([e1, e2].map eSO)) (fun q hq => by
    simp only [List.mem_cons, List.not_mem_nil, or_false] at hq
    rcases hq with rfl | rfl
    · exact o1
    · exact o2) (.inr rfl)
  obtain ⟨p3, g1⟩ := r_other (n := n) (k := k) (ws := ws) nr m1 m2 ne
  obtain ⟨p4, g2⟩ := r_other (n := n) (k := k) (ws := ws) nr m2 m1 fun z => ne z.symm
  have c1 := ne_eS o1
  have c2 := ne_eS o2
  have ee : er (.lst ([e1, e2].map eSO)) = .list ([e1, e2].map eS) := by rw [er_lst, ers_es]
  have t1 : ex (run T n (k + 2)) n (.asg (.tp (.nm 10) (.nm 11)) (.ix (.var 4) (.var 9))) [some (.fz (netD posts R ws)), some (.fz (netD posts R ws)), x2, x3, some (.fz (lkD D)), x5, x6, x7, x8, some (sO w), x10, x11, x12] = .ok .nx [some (.fz (netD posts R ws)), some (.fz (netD posts R ws)), x2, x3, some (.fz (lkD D)), x5, x6, x7, x8, some (sO w), some (.fz (eS e1)), some (.fz (eS e2)), x12] := by
    have tp : tupOf (.fz (.list ([e1, e2].map eS))) = some [.fz (eS e1), .fz (eS e2)] := rfl
    generalize [e1, e2].map eS = ed at *
    generalize netD posts R ws = nD at *
    generalize lkD D = ld at *
    generalize eS e1 = ea at *
    generalize eS e2 = eb at *
    simp [pl, qt, it, setTgO, tp]
  have t2 : ex (run T n (k + 2)) n (.set 12 (.call "ends_of" (.cons .val (.var 1) (.cons .val (.var 9) .nil)))) [some (.fz (netD posts R ws)), some (.fz (netD posts R ws)), x2, x3, some (.fz (lkD D)), x5, x6, x7, x8, some (sO w), some (.fz (eS e1)), some (.fz (eS e2)), x12] = .ok .nx [some (.fz (netD posts R ws)), some (.fz (netD posts R ws)), x2, x3, some (.fz (lkD D)), x5, x6, x7, x8, some (sO w), some (.fz (eS e1)), some (.fz (eS e2)), some (.lst ([e1, e2].map eSO))] := by
    generalize [e1, e2].map eSO = ed at *
    generalize netD posts R ws = nD at *
    generalize lkD D = ld at *
    generalize eS e1 = ea at *
    generalize eS e2 = eb at *
    simp [pl, qt, hasBor, backAr, Ar.o, ge]
  have t3 : ex (run T n (k + 2)) n (.ite (.not (.call "_law_tuples" (.cons .bor (.var 12) (.cons .val (.lst (.cons (.var 10) (.cons (.var 11) .nil))) .nil)))) (.cons (.ret (.bl false)) .nil) .nil) [some (.fz (netD posts R ws)), some (.fz (netD posts R ws)), x2, x3, some (.fz (lkD D)), x5, x6, x7, x8, some (sO w), some (.fz (eS e1)), some (.fz (eS e2)), some (.lst ([e1, e2].map eSO))] = .ok .nx [some (.fz (netD posts R ws)), some (.fz (netD posts R ws)), x2, x3, some (.fz (lkD D)), x5, x6, x7, x8, some (sO w), some (.fz (eS e1)), some (.fz (eS e2)), some (.lst ([e1, e2].map eSO))] := by
    have lst2 : O.lst [.fz (eS e1), .fz (eS e2)] = .lst ([e1, e2].map eSO) := rfl
    have fzl : isFz (.lst ([e1, e2].map eSO)) = false := rfl
    have le : ∀ a b, lfE (lentE [Ar.bor a, Ar.val b] p2) = true := fun a b => lent_none (by simp)
    generalize O.lst ([e1, e2].map eSO) = ol at *
    generalize [e1, e2].map eS = ed at *
    generalize netD posts R ws = nD at *
    generalize lkD D = ld at *
    generalize eS e1 = ea at *
    generalize eS e2 = eb at *
    simp [pl, qt, qts, qtA, hasBor, backAr, Ar.o, fzl, ee, lst2, gt, le, lfO, lf, strRoom, hs]
  have t4 : ex (run T n (k + 2)) n (.expr (.mut .reverse (.nm 12) .nil)) [some (.fz (netD posts R ws)), some (.fz (netD posts R ws)), x2, x3, some (.fz (lkD D)), x5, x6, x7, x8, some (sO w), some (.fz (eS e1)), some (.fz (eS e2)), some (.lst ([e1, e2].map eSO))] = .ok .nx [some (.fz (netD posts R ws)), some (.fz (netD posts R ws)), x2, x3, some (.fz (lkD D)), x5, x6, x7, x8, some (sO w), some (.fz (eS e1)), some (.fz (eS e2)), some (.lst [eSO e2, eSO e1])] := by
    have mr : mutO .reverse ([e1, e2].map eSO) [] = some ([eSO e2, eSO e1], .fz .none) := rfl
    generalize [e1, e2].map eSO = ol at *
    generalize netD posts R ws = nD at *
    generalize lkD D = ld at *
    generalize eS e1 = ea at *
    generalize eS e2 = eb at *
    generalize [eSO e2, eSO e1] = o2l at *
    simp [pl, qt, qts, mr]
  have t5 : ex (run T n (k + 2)) n (.ite (.bor (.cmp .ne (.call "other_end" (.cons .val (.var 1) (.cons .val (.var 10) .nil))) (.var 11)) (.cmp .ne (.call "other_end" (.cons .val (.var 1) (.cons .val (.var 11) .nil))) (.var 10))) (.cons (.ret (.bl false)) .nil) .nil) [some (.fz (netD posts R ws)), some (.fz (netD posts R ws)), x2, x3, some (.fz (lkD D)), x5, x6, x7, x8, some (sO w), some (.fz (eS e1)), some (.fz (eS e2)), some (.lst [eSO e2, eSO e1])] = .ok .nx [some (.fz (netD posts R ws)), some (.fz (netD posts R ws)), x2, x3, some (.fz (lkD D)), x5, x6, x7, x8, some (sO w), some (.fz (eS e1)), some (.fz (eS e2)), some (.lst [eSO e2, eSO e1])] := by
    have z1 : eSO e1 = .fz (eS e1) := rfl
    have z2 : eSO e2 = .fz (eS e2) := rfl
    generalize [eSO e2, eSO e1] = o2l at *
    rw [z1] at g2 c1
    rw [z2] at g1 c2
    generalize netD posts R ws = nD at *
    generalize lkD D = ld at *
    generalize eS e1 = ea at *
    generalize eS e2 = eb at *
    simp [pl, qt, qts, hasBor, backAr, Ar.o, g1, g2, c1, c2]
  rw [b_law_right_3, exs_cons, t1, thn2_nx, exs_cons, t2, thn2_nx, exs_cons, t3, thn2_nx, exs_cons, t4, thn2_nx, exs_cons, t5, thn2_nx, exs_nil]
theorem r_right (nr : NR posts R) (shN : shp 64 (netD posts R ws) = true) : ∃ ps : Rim.Env, run T n (k + 3) "_law_right" [.fz (netD posts R ws), .fz (netD posts R ws)] = .ok (.fz (.bool true)) ps := by
  rw [show ("_law_right" : Str) = d_law_right.name from rfl, run_b nodupT (by simp [T]) rfl]
  have hs : sizeLine = 16777216 := by decide
  obtain ⟨q1, gw⟩ := r_within (n := n) (k := k + 1) (ws := ws) nr
  obtain ⟨q2, gc⟩ := r_corn (n := n) (k := k) (ws := ws) nr
  obtain ⟨o3, q3, ec, gcp⟩ := r_copy (n := n) (k := k + 1) (ws := ws) nr
  have cw := co_pwi (F := (run T n (k + 2))) (ws := ws) nr (v := 5) (u := 6) (z := 0) (e := [some (.fz (netD posts R ws)), some (.fz (netD posts R ws)), some (.lst ((pwi posts R).map sO)), none, none, none, none, none, none, none, none, none, none]) rfl rfl (by decide) rfl (by decide) (by decide)
  have lw := pwi_len nr
  have shP : shp 64 (lsD (pwi posts R)) = true := shp_ls fun s hs => by
    obtain ⟨r, hr, rfl⟩ := List.mem_map.mp hs
    exact (nr.tr r (List.mem_filter.mp hr).1).1
  have i1 : itemO (.fz (netD posts R ws)) (.int 1) = some (.fz (.list (R.map rwD))) := rfl
  have t0 : ex (run T n (k + 2)) n (.set 2 (.call "points_within" (.cons .val (.var 1) .nil))) [some (.fz (netD posts R ws)), some (.fz (netD posts R ws)), none, none, none, none, none, none, none, none, none, none, none] = .ok .nx [some (.fz (netD posts R ws)), some (.fz (netD posts R ws)), some (.lst ((pwi posts R).map sO)), none, none, none, none, none, none, none, none, none, none] := by
    generalize (pwi posts R).map sO = po at *
    generalize netD posts R ws = nD at *
    simp [pl, qt, hasBor, backAr, Ar.o, gw]
  have t1 : ex (run T n (k + 2)) n (.ite (.bor (.not (.isi (.var 2) .list)) (.cmpA .ne 2 (.comp (.var 5) (.tp (.nm 5) (.nm 6)) (.seq (.ix (.var 0) (.int 1))) (.so (.cmp .notin (.var 5) (.ix (.var 0) (.int 0)))) [5, 6]))) (.cons (.ret (.bl false)) .nil) .nil) [some (.fz (netD posts R ws)), some (.fz (netD posts R ws)), some (.lst ((pwi posts R).map sO)), none, none, none, none, none, none, none, none, none, none] = .ok .nx [some (.fz (netD posts R ws)), some (.fz (netD posts R ws)), some (.lst ((pwi posts R).map sO)), none, none, none, none, none, none, none, none, none, none] := by
    have s1 : isiO (er (.lst ((pwi posts R).map sO))) .list = some true := by rw [er_lst]; rfl
    have cm : cmpO .ne (.lst ((pwi posts R).map sO)) (.lst ((pwi posts R).map sO)) = some false := by
      rw [cmp_lstL, ers_ls, cmp_lstR, ers_ls, c_neD shP shP, eqv_refl (shp_lay shP)]
      rfl
    have ll : ((pwi posts R).map sO).length ≤ 16777216 := by rw [List.length_map]; omega
    generalize (pwi posts R).map sO = po at *
    generalize R.map rwD = rD at *
    generalize netD posts R ws = nD at *
    simp [pl, qt, qts, s1, cm, i1, cw, ll, strRoom, hs, wipeE, -er_lst, -c_neD, -cmp_lstL, -cmp_lstR]
  have t2 : ex (run T n (k + 2)) n (.expr (.mut .append (.nm 2) (.cons (.str "zz") .nil))) [some (.fz (netD posts R ws)), some (.fz (netD posts R ws)), some (.lst ((pwi posts R).map sO)), none, none, none, none, none, none, none, none, none, none] = .ok .nx [some (.fz (netD posts R ws)), some (.fz (netD posts R ws)), some (.lst ((pwi posts R).map sO ++ [sO "zz"])), none, none, none, none, none, none, none, none, none, none] := by
    have ll : ((pwi posts R).map sO).length < 16777216 := by rw [List.length_map]; omega
    generalize (pwi posts R).map sO = po at *
    generalize netD posts R ws = nD at *
    simp [pl, qt, qts, strRoom, hs, ll]
  have t3 : ex (run T n (k + 2)) n (.set 3 (.lst .nil)) [some (.fz (netD posts R ws)), some (.fz (netD posts R ws)), some (.lst ((pwi posts R).map sO ++ [sO "zz"])), none, none, none, none, none, none, none, none, none, none] = .ok .nx [some (.fz (netD posts R ws)), some (.fz (netD posts R ws)), some (.lst ((pwi posts R).map sO ++ [sO "zz"])), some (.lst []), none, none, none, none, none, none, none, none, none] := by
    rw [ex_set, ev_lst, evEs_nil, bind_ok_]
    rfl
  have t4 : ex (run T n (k + 2)) n (.frz 3) [some (.fz (netD posts R ws)), some (.fz (netD posts R ws)), some (.lst ((pwi posts R).map sO ++ [sO "zz"])), some (.lst []), none, none, none, none, none, none, none, none, none] = .ok .nx [some (.fz (netD posts R ws)), some (.fz (netD posts R ws)), some (.lst ((pwi posts R).map sO ++ [sO "zz"])), some (.fz (.list [])), none, none, none, none, none, none, none, none, none] := by
    rw [ex_frz]
    simp only [List.getElem?_cons_zero, List.getElem?_cons_succ, List.set_cons_succ, List.set_cons_zero, er_lst, ers_nil]
  have t5 : ex (run T n (k + 2)) n (.set 4 .dkn) [some (.fz (netD posts R ws)), some (.fz (netD posts R ws)), some (.lst ((pwi posts R).map sO ++ [sO "zz"])), some (.fz (.list [])), none, none, none, none, none, none, none, none, none] = .ok .nx [some (.fz (netD posts R ws)), some (.fz (netD posts R ws)), some (.lst ((pwi posts R).map sO ++ [sO "zz"])), some (.fz (.list [])), some (.dk []), none, none, none, none, none, none, none, none] := by
    rw [ex_set, ev_dkn]
    rfl
  obtain ⟨e6, g6, D, y5, y6, y7, ga, rfl⟩ := fo_inv (F := (run T n (k + 2))) (n := n) (tg := .tp (.nm 5) (.nm 6)) (b := b_law_right_2) (ds := R.map rwD) (k := 0) (e := [some (.fz (netD posts R ws)), some (.fz (netD posts R ws)), some (.lst ((pwi posts R).map sO ++ [sO "zz"])), some (.fz (.list [])), some (.dk []), none, none, none, none, none, none, none, none])
    (fun i e => ∃ (D : List (Str × List (Str × Nat))) (y5 y6 y7 : Option O), Ga (endsG (R.take i)) D ∧ e = [some (.fz (netD posts R ws)), some (.fz (netD posts R ws)), some (.lst ((pwi posts R).map sO ++ [sO "zz"])), some (.fz (.list ((corN posts (R.take i)).map eS))), some (.dk (gO D)), y5, y6, y7, none, none, none, none, none])
    ⟨[], none, none, none, Ga.nil, rfl⟩ (fun i e d hd hp => by
      rw [Nat.zero_add] at hp ⊢
      obtain ⟨D, y5, y6, y7, ga, rfl⟩ := hp
      rw [List.getElem?_map] at hd
      obtain ⟨r, hr, rfl⟩ := Option.map_eq_some_iff.mp hd
      obtain ⟨D', z7, ga', g⟩ := row_due (n := n) (k := k) (ws := ws) nr hr ga (x2 := some (.lst ((pwi posts R).map sO ++ [sO "zz"]))) (y7 := y7)
      exact ⟨_, _, rfl, .inl g, D', some (sO r.1), some (.fz (lsD r.2)), z7, ga', rfl⟩)
  rw [Nat.zero_add, List.length_map, List.take_length] at ga g6
  have t6 : ex (run T n (k + 2)) n (.forr (.tp (.nm 5) (.nm 6)) (.seq (.ix (.var 0) (.int 1))) b_law_right_2) [some (.fz (netD posts R ws)), some (.fz (netD posts R ws)), some (.lst ((pwi posts R).map sO ++ [sO "zz"])), some (.fz (.list [])), some (.dk []), none, none, none, none, none, none, none, none] = .ok .nx [some (.fz (netD posts R ws)), some (.fz (netD posts R ws)), some (.lst ((pwi posts R).map sO ++ [sO "zz"])), some (.fz (.list ((corN posts R).map eS))), some (.dk (gO D)), y5, y6, y7, none, none, none, none, none] := by
    have it : evIt (run T n (k + 2)) (.seq (.ix (.var 0) (.int 1))) [some (.fz (netD posts R ws)), some (.fz (netD posts R ws)), some (.lst ((pwi posts R).map sO ++ [sO "zz"])), some (.fz (.list [])), some (.dk []), none, none, none, none, none, none, none, none] = .ok (R.map rwD) [some (.fz (netD posts R ws)), some (.fz (netD posts R ws)), some (.lst ((pwi posts R).map sO ++ [sO "zz"])), some (.fz (.list [])), some (.dk []), none, none, none, none, none, none, none, none] := by
      generalize R.map rwD = rD at *
      generalize netD posts R ws = nD at *
      generalize (pwi posts R).map sO = po at *
      simp [pl, qt, i1]
    rw [ex_forr, it, bind_ok_]
    exact g6
  have t7 : ex (run T n (k + 2)) n (.set 8 (.call "corners_of" (.cons .val (.var 1) .nil))) [some (.fz (netD posts R ws)), some (.fz (netD posts R ws)), some (.lst ((pwi posts R).map sO ++ [sO "zz"])), some (.fz (.list ((corN posts R).map eS))), some (.dk (gO D)), y5, y6, y7, none, none, none, none, none] = .ok .nx [some (.fz (netD posts R ws)), some (.fz (netD posts R ws)), some (.lst ((pwi posts R).map sO ++ [sO "zz"])), some (.fz (.list ((corN posts R).map eS))), some (.dk (gO D)), y5, y6, y7, some (.lst ((corN posts R).map eSO)), none, none, none, none] := by
    generalize gO D = gd at *
    generalize netD posts R ws = nD at *
    generalize (pwi posts R).map sO = po at *
    generalize (corN posts R).map eSO = co_ at *
    generalize (corN posts R).map eS = cd at *
    simp [pl, qt, hasBor, backAr, Ar.o, gc]
  obtain ⟨p8, gt8⟩ := r_tuples (n := n) (k := k + 1) (xs := corN posts R) (due := .fz (.list ((corN posts R).map eS))) (corN_ok nr) (.inl rfl)
  have ee8 : er (.lst ((corN posts R).map eSO)) = .list ((corN posts R).map eS) := by rw [er_lst, ers_es]
  have t8 : ex (run T n (k + 2)) n (.ite (.not (.call "_law_tuples" (.cons .bor (.var 8) (.cons .val (.var 3) .nil)))) (.cons (.ret (.bl false)) .nil) .nil) [some (.fz (netD posts R ws)), some (.fz (netD posts R ws)), some (.lst ((pwi posts R).map sO ++ [sO "zz"])), some (.fz (.list ((corN posts R).map eS))), some (.dk (gO D)), y5, y6, y7, some (.lst ((corN posts R).map eSO)), none, none, none, none] = .ok .nx [some (.fz (netD posts R ws)), some (.fz (netD posts R ws)), some (.lst ((pwi posts R).map sO ++ [sO "zz"])), some (.fz (.list ((corN posts R).map eS))), some (.dk (gO D)), y5, y6, y7, some (.lst ((corN posts R).map eSO)), none, none, none, none] := by
    have fzl : isFz (.lst ((corN posts R).map eSO)) = false := rfl
    have le : ∀ a b, lfE (lentE [Ar.bor a, Ar.val b] p8) = true := fun a b => lent_none (by simp)
    generalize gO D = gd at *
    generalize netD posts R ws = nD at *
    generalize (pwi posts R).map sO = po at *
    generalize O.lst ((corN posts R).map eSO) = co_ at *
    generalize (corN posts R).map eS = cd at *
    simp [pl, qt, qts, qtA, hasBor, backAr, Ar.o, fzl, ee8, gt8, le, lfO, lf]
  have t9 : ex (run T n (k + 2)) n (.expr (.mut .clear (.nm 8) .nil)) [some (.fz (netD posts R ws)), some (.fz (netD posts R ws)), some (.lst ((pwi posts R).map sO ++ [sO "zz"])), some (.fz (.list ((corN posts R).map eS))), some (.dk (gO D)), y5, y6, y7, some (.lst ((corN posts R).map eSO)), none, none, none, none] = .ok .nx [some (.fz (netD posts R ws)), some (.fz (netD posts R ws)), some (.lst ((pwi posts R).map sO ++ [sO "zz"])), some (.fz (.list ((corN posts R).map eS))), some (.dk (gO D)), y5, y6, y7, some (.lst []), none, none, none, none] := by
    have mc : mutO .clear ((corN posts R).map eSO) [] = some ([], .fz .none) := rfl
    generalize gO D = gd at *
    generalize netD posts R ws = nD at *
    generalize (pwi posts R).map sO = po at *
    generalize (corN posts R).map eSO = co_ at *
    generalize (corN posts R).map eS = cd at *
    simp [pl, qt, qts, mc]
  obtain ⟨e10, g10, z9, z10, z11, z12, rfl⟩ := fo_inv (F := (run T n (k + 2))) (n := n) (tg := .nm 9) (b := b_law_right_3) (ds := (D.map (·.1)).map PyData.str) (k := 0) (e := [some (.fz (netD posts R ws)), some (.fz (netD posts R ws)), some (.lst ((pwi posts R).map sO ++ [sO "zz"])), some (.fz (.list ((corN posts R).map eS))), some (.fz (lkD D)), y5, y6, y7, some (.lst []), none, none, none, none])
    (fun i e => ∃ (z9 z10 z11 z12 : Option O), e = [some (.fz (netD posts R ws)), some (.fz (netD posts R ws)), some (.lst ((pwi posts R).map sO ++ [sO "zz"])), some (.fz (.list ((corN posts R).map eS))), some (.fz (lkD D)), y5, y6, y7, some (.lst []), z9, z10, z11, z12])
    ⟨none, none, none, none, rfl⟩ (fun i e d hd hp => by
      obtain ⟨z9, z10, z11, z12, rfl⟩ := hp
      rw [List.map_map, List.getElem?_map] at hd
      obtain ⟨q, hq, rfl⟩ := Option.map_eq_some_iff.mp hd
      have gq := get1_of ga.nd (List.mem_of_getElem? hq)
      have gq2 := gq
      rw [ga.g q.1] at gq2
      split at gq2
      · cases gq2
      · rename_i nf
        have fe := Option.some.inj gq2
        cases hff : (endsG R).filter fun x => decide (x.2 = q.1) with
        | nil => exact absurd hff nf
        | cons x xs =>
          have mx : x ∈ (endsG R).filter fun x => decide (x.2 = q.1) := by rw [hff]; exact List.mem_cons_self
          obtain ⟨mx1, mx2⟩ := List.mem_filter.mp mx
          have ex : x.2 = q.1 := by simpa using mx2
          obtain ⟨e1, e2, hf, m1, m2, ne⟩ := nr.pair (e := x.1) (s := q.1) (by rw [← ex]; exact mx1)
          have q2 : q.2 = [e1, e2] := by rw [← fe, ← endsF_eq]; exact hf
          rw [q2] at gq
          exact ⟨_, _, rfl, .inl (wire_due (n := n) (k := k) (ws := ws) nr gq hf m1 m2 ne), some (sO q.1), some (.fz (eS e1)), some (.fz (eS e2)), some (.lst [eSO e2, eSO e1]), rfl⟩)
  have t10 : ex (run T n (k + 2)) n (.forr (.nm 9) (.seq (.lkv 4)) b_law_right_3) [some (.fz (netD posts R ws)), some (.fz (netD posts R ws)), some (.lst ((pwi posts R).map sO ++ [sO "zz"])), some (.fz (.list ((corN posts R).map eS))), some (.dk (gO D)), y5, y6, y7, some (.lst []), none, none, none, none] = .ok .nx [some (.fz (netD posts R ws)), some (.fz (netD posts R ws)), some (.lst ((pwi posts R).map sO ++ [sO "zz"])), some (.fz (.list ((corN posts R).map eS))), some (.fz (lkD D)), y5, y6, y7, some (.lst []), z9, z10, z11, z12] := by
    have it : evIt (run T n (k + 2)) (.seq (.lkv 4)) [some (.fz (netD posts R ws)), some (.fz (netD posts R ws)), some (.lst ((pwi posts R).map sO ++ [sO "zz"])), some (.fz (.list ((corN posts R).map eS))), some (.dk (gO D)), y5, y6, y7, some (.lst []), none, none, none, none] = .ok ((D.map (·.1)).map PyData.str) [some (.fz (netD posts R ws)), some (.fz (netD posts R ws)), some (.lst ((pwi posts R).map sO ++ [sO "zz"])), some (.fz (.list ((corN posts R).map eS))), some (.fz (lkD D)), y5, y6, y7, some (.lst []), none, none, none, none] := by
      rw [← lk_keys]
      unfold lkD
      generalize gO D = gd at *
      generalize netD posts R ws = nD at *
      generalize (pwi posts R).map sO = po at *
      simp
    rw [ex_forr, it, bind_ok_]
    exact g10
  have cmE : cmpO .eq (.fz (netD posts R ws)) o3 = some true := by
    have : cmpO .eq (.fz (netD posts R ws)) o3 = cmpO .eq (.fz (netD posts R ws)) (.fz (netD posts R ws)) := by
      unfold cmpO
      rw [ec, er_fz]
    rw [this, c_eqD shN shN, eqv_refl (shp_lay shN)]
  have t11 : ex (run T n (k + 2)) n (.ret (.cmp .eq (.var 1) (.call "_law_copy" (.cons .val (.var 0) .nil)))) [some (.fz (netD posts R ws)), some (.fz (netD posts R ws)), some (.lst ((pwi posts R).map sO ++ [sO "zz"])), some (.fz (.list ((corN posts R).map eS))), some (.fz (lkD D)), y5, y6, y7, some (.lst []), z9, z10, z11, z12] = .ok (.rt (.fz (.bool true))) [some (.fz (netD posts R ws)), some (.fz (netD posts R ws)), some (.lst ((pwi posts R).map sO ++ [sO "zz"])), some (.fz (.list ((corN posts R).map eS))), some (.fz (lkD D)), y5, y6, y7, some (.lst []), z9, z10, z11, z12] := by
    generalize netD posts R ws = nD at *
    generalize (pwi posts R).map sO = po at *
    generalize lkD D = ld at *
    generalize (corN posts R).map eS = cd at *
    simp [pl, qt, hasBor, backAr, Ar.o, gcp, cmE]
  refine ⟨(wipeE [some (.fz (netD posts R ws)), some (.fz (netD posts R ws)), some (.lst ((pwi posts R).map sO ++ [sO "zz"])), some (.fz (.list ((corN posts R).map eS))), some (.fz (lkD D)), y5, y6, y7, some (.lst []), z9, z10, z11, z12] (asSs b_law_right)).take 2, ?_⟩
  show finB 2 b_law_right (exs (run T n (k + 2)) n b_law_right [some (.fz (netD posts R ws)), some (.fz (netD posts R ws)), none, none, none, none, none, none, none, none, none, none, none]) = _
  rw [b_law_right, exs_cons, t0, thn2_nx, exs_cons, t1, thn2_nx, exs_cons, t2, thn2_nx, exs_cons, t3, thn2_nx, exs_cons, t4, thn2_nx, exs_cons, t5, thn2_nx, exs_cons, t6, thn2_nx, exs_cons, t7, thn2_nx, exs_cons, t8, thn2_nx, exs_cons, t9, thn2_nx, exs_cons, t10, thn2_nx, exs_cons, t11, thn2_rt]
  rfl
end
theorem law_true (ns : List Int) (h : ns.length ≤ 63) (hb : ∀ z ∈ ns, Builtin.Int.intBits z ≤ 1048576) : ∃ n ps, run T n 12 "law" [.fz (.list (ns.map .int))] = .ok (.fz (.bool true)) ps := by
  refine ⟨5000, ?_⟩
  rw [show ("law" : Str) = d_law.name from rfl, run_b nodupT (by simp [T]) rfl]
  obtain ⟨P, w, L, Ns, Ws, ord, ws, p1, net, g1⟩ := r_net (n := 5000) (k := 6) (ns := ns) (at0 := 0) (most := 9) (Nat.le_refl _) (by decide)
  have nr := net.nr
  have sh := net.shp
  generalize hR : ord.map (Gn.rowOf Ns Ws L) = R at *
  generalize hP : Ns.take P = posts at *
  obtain ⟨o2, p2, e2, g2⟩ := r_copy (n := 5000) (k := 10) (ws := ws) nr
  obtain ⟨p3, g3⟩ := r_right (n := 5000) (k := 8) (ws := ws) nr sh
  have e1 : er (.tup [.lst (posts.map sO), .fz (.list (R.map rwD)), .lst (ws.map Gn.wO)]) = netD posts R ws := by
    rw [er_tup, ers_cons, ers_cons, ers_cons, ers_nil, er_lst, er_fz, er_lst, ers_ls, er_worths]
  have g1' : run T 5000 11 "_law_net_by" [scr ns, iO 0, iO 9] = .ok (.tup [.lst (posts.map sO), .fz (.list (R.map rwD)), .lst (ws.map Gn.wO)]) p1 := g1
  generalize O.tup [.lst (posts.map sO), .fz (.list (R.map rwD)), .lst (ws.map Gn.wO)] = o1 at *
  generalize netD posts R ws = nD at *
  generalize hq : runB _ _ _ _ _ _ = q
  simp [runB, d_law, b_law, pl, qt, hasBor, backAr, Ar.o, g1', e1, g2, e2, g3, asSs, asS, tgS, wipeE] at hq
  exact ⟨_, hq.symm⟩
end
end K11
open PySem PySem.W PyProof.Rows
set_option maxHeartbeats 0 in
theorem PySem.Challenge.cw_rimread_k11_ends_and_corners_holds : PySem.Challenge.rw_rimread_k11_ends_and_corners.Holds := by
  w_on; o_law; k_head; (case hw => w_witness2)
  k_fill
  refine L2.walk_ofB (l := PySem.Challenge.rw_rimread_k11_ends_and_corners) (n := 63) (k := 12) (x := "_law_script") (CX := fun w => L2.CX PySem.Challenge.rw_rimread_k11_ends_and_corners.prog w) (sp := fun w => Rim.spL _ (fun _ => .none) K11.T 12 "law" 1) rfl (by decide) rfl ⟨rfl, by decide, by decide⟩ (fun w h Y => PySem.W.kIn_of Y) ?F (fun w H a ns hl hb _ hS => Rim.sp_script hS (K11.law_true ns hl hb)) (fun w => Rim.cx_end)
  case F =>
    intro w mg fa h KX G hmg
    refine' K11.all_mk KX G hmg ?a0 ?l0 ?c0 ?k0 ?a1 ?l1 ?c1 ?k1 ?a2 ?l2 ?c2 ?k2 ?a3 ?l3 ?c3 ?k3 ?a4 ?l4 ?c4 ?k4 ?a5 ?l5 ?c5 ?k5 ?a6 ?l6 ?c6 ?k6 ?a7 ?l7 ?c7 ?k7 ?a8 ?l8 ?c8 ?k8 ?a9 ?l9 ?c9 ?k9 ?a10 ?l10 ?c10 ?k10 ?a11 ?l11 ?c11 ?k11 ?a12 ?l12 ?c12 ?k12 ?a13 ?l13 ?c13 ?k13 ?a14 ?l14 ?c14 ?k14 ?a15 ?l15 ?c15 ?k15 ?a16 ?l16 ?c16 ?k16 ?a17 ?l17 ?c17 ?k17 ?a18 ?l18 ?c18 ?k18 ?a19 ?l19 ?c19 ?k19 ?a20 ?l20 ?c20 ?k20 ?a21 ?l21 ?c21 ?k21 ?a22 ?l22 ?c22 ?k22 ?z0 ?z1 ?z2 ?z3 ?z4 ?z5 ?z6 ?z7 ?z8 ?z9 ?z10
    (case a0 => k_is); (case l0 => k_is); (case c0 => k_is); (case k0 => k_is); (case a1 => k_is); (case l1 => k_is); (case c1 => k_is); (case k1 => k_is); (case a2 => k_is); (case l2 => k_is); (case c2 => k_is); (case k2 => k_is); (case a3 => k_is); (case l3 => k_is); (case c3 => k_is); (case k3 => k_is); (case a4 => k_is); (case l4 => k_is); (case c4 => k_is); (case k4 => k_is); (case a5 => k_is); (case l5 => k_is); (case c5 => k_is); (case k5 => k_is); (case a6 => k_is); (case l6 => k_is); (case c6 => k_is); (case k6 => k_is); (case a7 => k_is); (case l7 => k_is); (case c7 => k_is); (case k7 => k_is); (case a8 => k_is); (case l8 => k_is); (case c8 => k_is); (case k8 => k_is); (case a9 => k_is); (case l9 => k_is); (case c9 => k_is); (case k9 => k_is); (case a10 => k_is); (case l10 => k_is); (case c10 => k_is); (case k10 => k_is); (case a11 => k_is); (case l11 => k_is); (case c11 => k_is); (case k11 => k_is); (case a12 => k_is); (case l12 => k_is); (case c12 => k_is); (case k12 => k_is); (case a13 => k_is); (case l13 => k_is); (case c13 => k_is); (case k13 => k_is); (case a14 => k_is); (case l14 => k_is); (case c14 => k_is); (case k14 => k_is); (case a15 => k_is); (case l15 => k_is); (case c15 => k_is); (case k15 => k_is); (case a16 => k_is); (case l16 => k_is); (case c16 => k_is); (case k16 => k_is); (case a17 => k_is); (case l17 => k_is); (case c17 => k_is); (case k17 => k_is); (case a18 => k_is); (case l18 => k_is); (case c18 => k_is); (case k18 => k_is); (case a19 => k_is); (case l19 => k_is); (case c19 => k_is); (case k19 => k_is); (case a20 => k_is); (case l20 => k_is); (case c20 => k_is); (case k20 => k_is); (case a21 => k_is); (case l21 => k_is); (case c21 => k_is); (case k21 => k_is); (case a22 => k_is); (case l22 => k_is); (case c22 => k_is); (case k22 => k_is); (case z0 => k_is); (case z1 => k_is); (case z2 => k_is); (case z3 => k_is); (case z4 => k_is); (case z5 => k_is); (case z6 => k_is); (case z7 => k_is); (case z8 => k_is); (case z9 => k_is); (case z10 => k_is)
