import PyProof.Rows.All
import Wide.All
import OpenK.AllK
import Wide.FinOn
import HandS.ForMost
import HandS.More
import HandS.Codes
import HandS.IsInst
import HandS.WideBits
import HandS.TupAny
import HandS.Deep
import HandS.Property
import HandS.ClsMeth
import HandS.Star
import HandS.Flow
import HandS.Style
import HandS.Small
import HandS.Zip
import HandS.Evl
import HandS.Walk
import HandS.RaiseMore
import HandS.Steps
import PySem.Challenge.RW_shapekeep_k90_whole_reads_tell_all
import HandS.TupSets
import KE.KSortTupG
set_option Elab.async false
set_option linter.all false
set_option maxRecDepth 100000
set_option maxHeartbeats 4000000
set_option pp.maxSteps 1500
namespace RT
open PySem PySem.Spec PyProof.Rows L2
/-! the text by places -/
def topS (i : Nat) : Stmt := PySem.Challenge.pw_shapekeep_k90_whole_reads_tell_all.main.body.getD i (.Pass ⟨0, 0, 0, 0⟩)
/-- a def of the module, by its name -/
structure Df (K : PySem.W.Frag) (mg : Str → Option Value) (x : Str) (ps : List Str) (st : Stmt) : Prop where
  ex : ∃ (f : Addr) (fd : FuncData), Fun K x x st f fd ∧ mg x = some (.ref f) ∧ Binds K fd ps []
/-- a def of the module that keeps a promise at level k -/
structure Cl (P : Program) (w : World) (K : PySem.W.Frag) (mg : Str → Option Value) (base : Heap) (k : Nat) (x : Str) (sp : Sp) : Prop where
  ex : ∃ (f : Addr) (fd : FuncData) (ps : List Str), FnOk P w K mg base CX0 k f fd ps sp ∧ mg x = some (.ref f) ∧ PySem.W.keepIn K (.ref f) = true ∧ Binds K fd ps []
section
variable {P : Program} {w : World} {K : PySem.W.Frag} {mg : Str → Option Value} {base : Heap} {k j : Nat} {x : Str} {sp sp' : Sp} {st : Stmt} {N ps : List Str}
theorem Cl.mono (c : Cl P w K mg base j x sp) (h : j ≤ k) : Cl P w K mg base k x sp := by
  obtain ⟨f, fd, ps, F, r⟩ := c.ex
  exact ⟨f, fd, ps, F.mono h, r⟩
theorem Cl.imp (c : Cl P w K mg base k x sp) (h : ∀ vs H Q E, sp' vs H Q E → sp vs H Q E) : Cl P w K mg base k x sp' := by
  obtain ⟨f, fd, ps, F, r⟩ := c.ex
  exact ⟨f, fd, ps, F.imp h, r⟩
theorem Df.ok (D : Df K mg x ps st) (S : FnScope N ps (defScope st)) (len : ∀ vs H Q E, sp vs H Q E → vs.length = ps.length)
    (hbody : ∀ (f : Addr) (cdv : Value) (A : Around) (outer : List Env) (s : Shared) (H : Hp) (vs : List V) (Q : VK) (E : XK), Room k (A.deeper (envOfC x (defScope st) s.heap.objs.size f cdv)) → sp vs H Q E →
      ∃ t, PSs (cxOf CX0 P w K mg base N x (defScope st) f cdv A outer s H E).nox (defBody st) t ∧ t { nx := fun _ H' => Q .non H', rt := Q } (start N vs) H) : Cl P w K mg base (k + 1) x sp := by
  obtain ⟨f, fd, F, m, b⟩ := D.ex
  exact ⟨f, fd, ps, F.ok S len fun cdv A outer s H vs Q E => hbody f cdv A outer s H vs Q E, m, F.kp, b⟩
end
section
variable {X : Cx} {k j : Nat} {x : Str} {sp : Sp} {p pos : Pos} {e : Expr} {es : List Expr} {t : TA}
theorem pc (c : Cl X.prog X.w X.K X.mg X.base k x sp) (hr : Room j X.A) (hk : k ≤ j) (hg : Gl X x) (ha : PA X (e :: es) t)
    (hdb : (x == ("__debug__" : Str)) = false := by decide) (he : starEach (e :: es) X.env = (false, eval e X.env) :: starEach es X.env := by rfl) (hpl : (backTo pos (starEach es X.env)).any (·.1) = false := by rfl) :
    PE X (.Call (.Name x p) (e :: es) [] pos) (tCall sp [] E0 t) := by
  obtain ⟨f, fd, ps, F, hm, kp, b⟩ := c.ex
  exact pe_call F (hr.mono hk) hg hm kp b .nil pass0 ha hdb he hpl
end
section
variable {X : Cx} {x : Str} {pos : Pos}
/-- a built-in type's name as a value -/
theorem pe_ty (hg : Gl X x) (hm : X.mg x = none) (n : String) (hv : bootBuiltins x = some (.type n) := by decide +kernel) (hn : x ≠ "__name__" := by decide) (hd : (x == ("__debug__" : Str)) = false := by decide) : PE X (.Name x pos) (tC (.ty n)) :=
  pe_bltn hg hm hv rfl hn hd
end
/-- the module's constants and the built-ins that stand behind no name of the module -/
structure Bi (mg : Str → Option Value) : Prop where
  len : mg "len" = none
  isi : mg "isinstance" = none
  all : mg "all" = none
  srt : mg "sorted" = none
  tup : mg "tuple" = none
  rng : mg "range" = none
  sum : mg "sum" = none
  str : mg "str" = none
  int : mg "int" = none
  bool : mg "bool" = none
  dict : mg "dict" = none
  max : mg "max" = none
  min : mg "min" = none
  abs : mg "abs" = none
  dvm : mg "divmod" = none
  zip : mg "zip" = none
  elems : ∃ u, mg "MAX_ELEMENTS" = some u ∧ RelV (.int 60) u
  levels : ∃ u, mg "MAX_LEVELS" = some u ∧ RelV (.int 6) u
  letters : ∃ u, mg "LETTERS" = some u ∧ RelV (.str "abcdefghijklmnopqrstuvwxyz") u
  digits : ∃ u, mg "DIGITS" = some u ∧ RelV (.str "0123456789") u
  mlev : ∃ u, mg "MOST_LEVELS" = some u ∧ RelV (.int 8) u
  mdig : ∃ u, mg "MOST_DIGITS" = some u ∧ RelV (.int 15) u
  mchr : ∃ u, mg "MOST_CHARS" = some u ∧ RelV (.int 60) u
/-- the module's tuples -/
structure Kx (K : PySem.W.Frag) (mg : Str → Option Value) : Prop where
  notv : ∃ a, mg "NOT_VARIABLES" = some (.ref a) ∧ ∀ H, SqT K H a [.str "true", .str "false", .str "self"]
  opn : ∃ a, mg "OPEN" = some (.ref a) ∧ ∀ H, SqT K H a [.str "sum", .str "joined"]
end RT
/-! the plain law: a typed expression's value hangs on its reads alone -/
namespace RT
open PySem

/-! ### kinds, things, trees -/
inductive Fm where
  | text | number | flag
  | list (f : Fm) | keyed (f : Fm) (k : Str) | opt (f : Fm)
  | rcd (ns : List Str) (fs : List Fm)
inductive Th where
  | non | bl (b : Bool) | int (i : Int) | str (x : Str)
  | lst (ts : List Th) | rcd (ns : List Str) (ts : List Th)
inductive Kd where
  | text | number | flag
  deriving DecidableEq
def Kd.fm : Kd → Fm
  | .text => .text
  | .number => .number
  | .flag => .flag
inductive Wd where
  | equal | less | not | both | either | sum | joined | size | has | orElse
  deriving DecidableEq
inductive Tree where
  | get (ns : List Str) | text (x : Str) | number (n : Int) | flag (b : Bool)
  | call (w : Wd) (ts : List Tree)
def Fm.isList : Fm → Bool
  | .list _ => true
  | .keyed _ _ => true
  | _ => false

inductive Fits : Fm → Th → Prop where
  | text {x : Str} : x.length ≤ 16 → Fits .text (.str x)
  | number (i : Int) : Fits .number (.int i)
  | flag (b : Bool) : Fits .flag (.bl b)
  | list {f : Fm} {ts : List Th} : ts.length ≤ 60 → (∀ t ∈ ts, Fits f t) → Fits (.list f) (.lst ts)
  | keyed {f : Fm} {k : Str} {ts : List Th} : ts.length ≤ 60 → (∀ t ∈ ts, Fits f t) → Fits (.keyed f k) (.lst ts)
  | none (f : Fm) : Fits (.opt f) .non
  | some {f : Fm} {t : Th} : Fits f t → Fits (.opt f) t
  | rcd {ns : List Str} {fs : List Fm} {ts : List Th} : ts.length = fs.length → (∀ (i : Nat) (f : Fm) (t : Th), fs[i]? = some f → ts[i]? = some t → Fits f t) → Fits (.rcd ns fs) (.rcd ns ts)

/-! ### paths -/
def fieldOf {α : Type} : List Str → List α → Str → Option α
  | n :: ns, x :: xs, m => if n = m then some x else fieldOf ns xs m
  | _, _, _ => none
def pathF : List Str → Fm → Option Fm
  | [], f => some f
  | n :: r, .rcd ns fs => (fieldOf ns fs n).bind (pathF r)
  | _ :: _, _ => none
def pathT : List Str → Th → Option Th
  | [], t => some t
  | n :: r, .rcd ns ts => (fieldOf ns ts n).bind (pathT r)
  | _ :: _, _ => none
def lookF (sc : Str → Option Fm) : List Str → Option Fm
  | [] => none
  | n :: r => (sc n).bind (pathF r)
def look (ρ : Str → Option Th) : List Str → Option Th
  | [] => none
  | n :: r => (ρ n).bind (pathT r)
theorem field_at {α : Type} : ∀ {ns : List Str} {xs : List α} {m : Str} {x : α}, fieldOf ns xs m = some x → ∃ i : Nat, ns[i]? = some m ∧ xs[i]? = some x
  | [], _, _, _, h => by simp [fieldOf] at h
  | _ :: _, [], _, _, h => by simp [fieldOf] at h
  | n :: ns, y :: ys, m, x, h => by
    unfold fieldOf at h
    by_cases e : n = m
    · rw [if_pos e] at h
      exact ⟨0, by simp [e], by simpa using h⟩
    · rw [if_neg e] at h
      obtain ⟨i, h1, h2⟩ := field_at h
      exact ⟨i + 1, by simpa using h1, by simpa using h2⟩
theorem at_field {α : Type} : ∀ {ns : List Str} {xs : List α} {m : Str} {x : α} {i : Nat}, ns.Nodup → ns[i]? = some m → xs[i]? = some x → fieldOf ns xs m = some x
  | [], _, _, _, _, _, h, _ => by simp at h
  | _ :: _, [], _, _, _, _, _, h => by simp at h
  | n :: ns, y :: ys, m, x, 0, _, h1, h2 => by
    simp at h1 h2
    unfold fieldOf
    rw [if_pos h1, h2]
  | n :: ns, y :: ys, m, x, i + 1, nd, h1, h2 => by
    simp at h1 h2
    have hne : ¬ n = m := by
      intro e
      subst e
      exact (List.nodup_cons.mp nd).1 (List.mem_of_getElem? h1)
    unfold fieldOf
    rw [if_neg hne]
    exact at_field (List.nodup_cons.mp nd).2 h1 h2
theorem field_some {α β : Type} : ∀ {ns : List Str} {xs : List α} {ys : List β} {m : Str} {x : α}, fieldOf ns xs m = some x → ys.length = xs.length → ∃ (i : Nat) (y : β), fieldOf ns ys m = some y ∧ xs[i]? = some x ∧ ys[i]? = some y
  | [], _, _, _, _, h, _ => by simp [fieldOf] at h
  | _ :: _, [], _, _, _, h, _ => by simp [fieldOf] at h
  | _ :: _, _ :: _, [], _, _, _, h => by simp at h
  | n :: ns, x' :: xs, y' :: ys, m, x, h, hl => by
    unfold fieldOf at h ⊢
    by_cases e : n = m
    · rw [if_pos e] at h
      cases h
      exact ⟨0, y', by rw [if_pos e], rfl, rfl⟩
    · rw [if_neg e] at h
      obtain ⟨i, y, h1, h2, h3⟩ := field_some (ys := ys) h (by simpa using hl)
      exact ⟨i + 1, y, by rw [if_neg e]; exact h1, by simpa using h2, by simpa using h3⟩
theorem path_fits : ∀ (r : List Str) {f g : Fm} {t : Th}, Fits f t → pathF r f = some g → ∃ u, pathT r t = some u ∧ Fits g u
  | [], f, g, t, h, e => by
    simp [pathF] at e
    subst e
    exact ⟨t, rfl, h⟩
  | n :: r, f, g, t, h, e => by
    cases f with
    | rcd ns fs =>
      cases h with
      | rcd hl hf =>
        rename_i ts
        simp only [pathF] at e
        cases q : fieldOf ns fs n with
        | none => rw [q] at e; simp at e
        | some f1 =>
          rw [q] at e
          obtain ⟨i, u, h1, h2, h3⟩ := field_some (ys := ts) q hl
          obtain ⟨v, h4, h5⟩ := path_fits r (hf i f1 u h2 h3) (by simpa using e)
          exact ⟨v, by simp only [pathT]; rw [h1]; simpa using h4, h5⟩
    | _ => simp [pathF] at e
def EnvFits (sc : Str → Option Fm) (ρ : Str → Option Th) : Prop := ∀ n f, sc n = some f → ∃ t, ρ n = some t ∧ Fits f t
theorem look_fits {sc : Str → Option Fm} {ρ : Str → Option Th} (E : EnvFits sc ρ) {ns : List Str} {f : Fm} (h : lookF sc ns = some f) : ∃ t, look ρ ns = some t ∧ Fits f t := by
  cases ns with
  | nil => simp [lookF] at h
  | cons n r =>
    simp only [lookF] at h
    cases q : sc n with
    | none => rw [q] at h; simp at h
    | some g =>
      rw [q] at h
      obtain ⟨t, h1, h2⟩ := E n g q
      obtain ⟨u, h3, h4⟩ := path_fits r h2 (by simpa using h)
      exact ⟨u, by simp only [look]; rw [h1]; simpa using h3, h4⟩

/-! ### values -/
/-- texts, one after the other -/
def cat (l : List Str) : Str := SX.S (l.map TL.tl).flatten
theorem cat_len : ∀ l : List Str, (cat l).length = (l.map (·.length)).sum
  | [] => rfl
  | x :: r => by
    have ih := cat_len r
    unfold cat at ih ⊢
    rw [SX.S_len] at ih ⊢
    rw [List.map_cons, List.flatten_cons, List.length_append, ih, List.map_cons, List.sum_cons]
    rfl
theorem sum_le {n : Nat} : ∀ {l : List Str}, (∀ x ∈ l, x.length ≤ n) → (l.map (·.length)).sum ≤ l.length * n
  | [], _ => by simp
  | x :: r, h => by
    have h1 := h x (by simp)
    have h2 := sum_le (l := r) fun y hy => h y (by simp [hy])
    rw [List.map_cons, List.sum_cons, List.length_cons, Nat.succ_mul]
    omega
def thInts : List Th → Option (List Int)
  | [] => some []
  | .int i :: r => (thInts r).map (i :: ·)
  | _ => none
def thStrs : List Th → Option (List Str)
  | [] => some []
  | .str x :: r => (thStrs r).map (x :: ·)
  | _ => none
def isNon : Th → Bool
  | .non => true
  | _ => false
def app : Wd → List Th → Option Th
  | .sum, xs => (thInts xs).map fun l => .int l.sum
  | .joined, xs => (thStrs xs).map fun l => .str (cat l)
  | .size, [.lst ts] => some (.int ts.length)
  | .has, [t] => some (.bl (!isNon t))
  | .orElse, [x, y] => some (if isNon x = true then y else x)
  | .not, [.bl b] => some (.bl (!b))
  | .equal, [.str a, .str b] => some (.bl (decide (a = b)))
  | .equal, [.int a, .int b] => some (.bl (decide (a = b)))
  | .equal, [.bl a, .bl b] => some (.bl (decide (a = b)))
  | .less, [.int a, .int b] => some (.bl (decide (a < b)))
  | .both, [.bl a, .bl b] => some (.bl (a && b))
  | .either, [.bl a, .bl b] => some (.bl (a || b))
  | _, _ => none
mutual
def ev (ρ : Str → Option Th) : Tree → Option Th
  | .get ns => look ρ ns
  | .text x => some (.str x)
  | .number n => some (.int n)
  | .flag b => some (.bl b)
  | .call w ts => (evs ρ ts).bind (app w)
def evs (ρ : Str → Option Th) : List Tree → Option (List Th)
  | [] => some []
  | t :: r => (ev ρ t).bind fun x => (evs ρ r).bind fun xs => some (x :: xs)
end
mutual
def rds : Tree → List (List Str)
  | .get ns => [ns]
  | .call _ ts => rdss ts
  | _ => []
def rdss : List Tree → List (List Str)
  | [] => []
  | t :: r => rds t ++ rdss r
end
mutual
def dep : Tree → Nat
  | .call _ ts => deps ts + 1
  | _ => 1
def deps : List Tree → Nat
  | [] => 0
  | t :: r => max (dep t) (deps r)
end
mutual
theorem ev_same {ρ ρ' : Str → Option Th} : ∀ t : Tree, (∀ ns ∈ rds t, look ρ ns = look ρ' ns) → ev ρ t = ev ρ' t
  | .get ns, h => by simp only [ev]; exact h ns (by simp [rds])
  | .text _, _ => by simp only [ev]
  | .number _, _ => by simp only [ev]
  | .flag _, _ => by simp only [ev]
  | .call w ts, h => by
    simp only [ev]
    rw [evs_same ts fun ns hn => h ns (by simpa [rds] using hn)]
theorem evs_same {ρ ρ' : Str → Option Th} : ∀ ts : List Tree, (∀ ns ∈ rdss ts, look ρ ns = look ρ' ns) → evs ρ ts = evs ρ' ts
  | [], _ => by simp only [evs]
  | t :: r, h => by
    simp only [evs]
    rw [ev_same t fun ns hn => h ns (by simp [rdss, hn]), evs_same r fun ns hn => h ns (by simp [rdss, hn])]
end
theorem mem_rdss {ns : List Str} : ∀ {ts : List Tree}, ns ∈ rdss ts → ∃ t ∈ ts, ns ∈ rds t
  | [], h => by simp [rdss] at h
  | t :: r, h => by
    simp only [rdss, List.mem_append] at h
    rcases h with h | h
    · exact ⟨t, by simp, h⟩
    · obtain ⟨u, hu, hn⟩ := mem_rdss h
      exact ⟨u, by simp [hu], hn⟩
theorem rdss_mem {ns : List Str} : ∀ {ts : List Tree} {t : Tree}, t ∈ ts → ns ∈ rds t → ns ∈ rdss ts
  | [], _, h, _ => by simp at h
  | t :: r, u, h, hn => by
    simp only [rdss, List.mem_append]
    rcases List.mem_cons.mp h with e | e
    · subst e; exact .inl hn
    · exact .inr (rdss_mem e hn)
theorem dep_le_deps : ∀ {ts : List Tree} {t : Tree}, t ∈ ts → dep t ≤ deps ts
  | [], _, h => by simp at h
  | t :: r, u, h => by
    simp only [deps]
    rcases List.mem_cons.mp h with e | e
    · subst e; exact Nat.le_max_left _ _
    · exact Nat.le_trans (dep_le_deps e) (Nat.le_max_right _ _)
theorem deps_le {n : Nat} : ∀ {ts : List Tree}, (∀ t ∈ ts, dep t ≤ n) → deps ts ≤ n
  | [], _ => by simp [deps]
  | t :: r, h => by
    simp only [deps]
    exact Nat.max_le.mpr ⟨h t (by simp), deps_le fun u hu => h u (by simp [hu])⟩

/-! ### typed expressions -/
/-- a text that may stand in quotes -/
def Quot (x : Str) : Prop := x.length ≤ 16 ∧ ∀ c ∈ x.cps.toList, c ≠ 34 ∧ c ≠ 123 ∧ c ≠ 125 ∧ c ≠ 10
inductive WT (sc : Str → Option Fm) : Kd → Tree → Prop where
  | get {k : Kd} {ns : List Str} : lookF sc ns = some k.fm → WT sc k (.get ns)
  | text {x : Str} : Quot x → WT sc .text (.text x)
  | number {n : Int} : n = 0 ∨ n = 7 ∨ n = -12 ∨ n = 100000000000000 → WT sc .number (.number n)
  | flag (b : Bool) : WT sc .flag (.flag b)
  | orElse {k : Kd} {ns : List Str} {y : Tree} : lookF sc ns = some (.opt k.fm) → WT sc k y → WT sc k (.call .orElse [.get ns, y])
  | size {ns : List Str} {f : Fm} : lookF sc ns = some f → f.isList = true → WT sc .number (.call .size [.get ns])
  | sum {ts : List Tree} : ts ≠ [] → ts.length ≤ 3 → (∀ t ∈ ts, WT sc .number t) → WT sc .number (.call .sum ts)
  | joined {ts : List Tree} : ts ≠ [] → ts.length ≤ 3 → (∀ t ∈ ts, WT sc .text t) → WT sc .text (.call .joined ts)
  | has {ns : List Str} {f : Fm} : lookF sc ns = some (.opt f) → WT sc .flag (.call .has [.get ns])
  | not {x : Tree} : WT sc .flag x → WT sc .flag (.call .not [x])
  | equal {k : Kd} {x y : Tree} : WT sc k x → WT sc k y → WT sc .flag (.call .equal [x, y])
  | less {x y : Tree} : WT sc .number x → WT sc .number y → WT sc .flag (.call .less [x, y])
  | both {x y : Tree} : WT sc .flag x → WT sc .flag y → WT sc .flag (.call .both [x, y])
  | either {x y : Tree} : WT sc .flag x → WT sc .flag y → WT sc .flag (.call .either [x, y])
/-- what a value of a kind is; a text's length by the depth -/
def Val1 : Kd → Nat → Th → Prop
  | .text, d, t => ∃ x : Str, t = .str x ∧ x.length ≤ 16 * 3 ^ d
  | .number, _, t => ∃ i, t = .int i
  | .flag, _, t => ∃ b, t = .bl b
theorem pow3 (d : Nat) : 1 ≤ 3 ^ d := Nat.one_le_pow d 3 (by decide)
theorem pow3_mono {a b : Nat} (h : a ≤ b) : 3 ^ a ≤ 3 ^ b := Nat.pow_le_pow_right (by decide) h
theorem Val1.mono {k : Kd} {a b : Nat} {t : Th} (h : Val1 k a t) (l : a ≤ b) : Val1 k b t := by
  cases k with
  | text =>
    obtain ⟨x, e, hx⟩ := h
    exact ⟨x, e, Nat.le_trans hx (Nat.mul_le_mul_left 16 (pow3_mono l))⟩
  | number => exact h
  | flag => exact h
theorem Val1.of_fits {k : Kd} {t : Th} (h : Fits k.fm t) (d : Nat) : Val1 k d t := by
  cases k with
  | text =>
    cases h with
    | text hx => exact ⟨_, rfl, Nat.le_trans hx (by have := pow3 d; omega)⟩
  | number => cases h; exact ⟨_, rfl⟩
  | flag => cases h; exact ⟨_, rfl⟩
theorem evs_ints {ρ : Str → Option Th} : ∀ {ts : List Tree}, (∀ t ∈ ts, ∃ i, ev ρ t = some (.int i)) → ∃ l : List Int, evs ρ ts = some (l.map Th.int) ∧ l.length = ts.length
  | [], _ => ⟨[], by simp [evs], rfl⟩
  | t :: r, h => by
    obtain ⟨i, h1⟩ := h t (by simp)
    obtain ⟨l, h2, h3⟩ := evs_ints (ts := r) fun u hu => h u (by simp [hu])
    exact ⟨i :: l, by simp [evs, h1, h2], by simp [h3]⟩
theorem ints_map : ∀ l : List Int, thInts (l.map Th.int) = some l
  | [] => rfl
  | i :: r => by simp [thInts, ints_map r]
theorem strs_map : ∀ l : List Str, thStrs (l.map Th.str) = some l
  | [] => rfl
  | i :: r => by simp [thStrs, strs_map r]
theorem evs_strs {ρ : Str → Option Th} {n : Nat} : ∀ {ts : List Tree}, (∀ t ∈ ts, ∃ x : Str, ev ρ t = some (.str x) ∧ x.length ≤ n) → ∃ l : List Str, evs ρ ts = some (l.map Th.str) ∧ l.length = ts.length ∧ ∀ x ∈ l, x.length ≤ n
  | [], _ => ⟨[], by simp [evs], rfl, by simp⟩
  | t :: r, h => by
    obtain ⟨x, h1, hx⟩ := h t (by simp)
    obtain ⟨l, h2, h3, h4⟩ := evs_strs (ts := r) fun u hu => h u (by simp [hu])
    refine ⟨x :: l, by simp [evs, h1, h2], by simp [h3], fun y hy => ?_⟩
    rcases List.mem_cons.mp hy with e | e
    · rw [e]; exact hx
    · exact h4 y e
theorem wt_val {sc : Str → Option Fm} {ρ : Str → Option Th} (E : EnvFits sc ρ) {k : Kd} {t : Tree} (h : WT sc k t) : ∃ r, ev ρ t = some r ∧ Val1 k (dep t) r := by
  induction h with
  | get h =>
    obtain ⟨t, h1, h2⟩ := look_fits E h
    exact ⟨t, by simp only [ev]; exact h1, .of_fits h2 _⟩
  | text h => exact ⟨_, by simp only [ev], _, rfl, Nat.le_trans h.1 (by have := pow3 1; simp [dep])⟩
  | @number n h => exact ⟨.int n, by simp only [ev], n, rfl⟩
  | flag b => exact ⟨.bl b, by simp only [ev], b, rfl⟩
  | @orElse k ns y h hy ih =>
    obtain ⟨x, h1, h2⟩ := look_fits E h
    obtain ⟨r, h3, h4⟩ := ih
    have e : ev ρ (.call .orElse [.get ns, y]) = some (if isNon x = true then r else x) := by simp [ev, evs, h1, h3, app]
    refine ⟨_, e, ?_⟩
    have hd : dep y ≤ dep (.call .orElse [.get ns, y]) := by simp only [dep, deps]; omega
    cases h2 with
    | none => exact (show Val1 k _ r from h4.mono hd)
    | some h2 =>
      have hn : isNon x = false := by
        cases k <;> cases h2 <;> rfl
      rw [hn]
      exact .of_fits h2 _
  | @size ns f h hf =>
    obtain ⟨x, h1, h2⟩ := look_fits E h
    cases h2 with
    | @list _ ts _ _ => exact ⟨.int ts.length, by simp [ev, evs, h1, app], _, rfl⟩
    | @keyed _ _ ts _ _ => exact ⟨.int ts.length, by simp [ev, evs, h1, app], _, rfl⟩
    | _ => simp [Fm.isList] at hf
  | @sum ts h0 hl h ih =>
    obtain ⟨l, h1, _⟩ := evs_ints (ρ := ρ) (ts := ts) fun t ht => by
      obtain ⟨r, e, i, e2⟩ := ih t ht
      exact ⟨i, by rw [e, e2]⟩
    exact ⟨.int l.sum, by simp [ev, h1, app, ints_map], _, rfl⟩
  | @joined ts h0 hl h ih =>
    obtain ⟨l, h1, h2, h3⟩ := evs_strs (ρ := ρ) (n := 16 * 3 ^ deps ts) (ts := ts) fun t ht => by
      obtain ⟨r, e, x, e2, hx⟩ := ih t ht
      exact ⟨x, by rw [e, e2], Nat.le_trans hx (Nat.mul_le_mul_left 16 (pow3_mono (dep_le_deps ht)))⟩
    refine ⟨.str (cat l), by simp [ev, h1, app, strs_map], _, rfl, ?_⟩
    rw [cat_len]
    have h4 := sum_le h3
    have h5 : l.length * (16 * 3 ^ deps ts) ≤ 3 * (16 * 3 ^ deps ts) := Nat.mul_le_mul_right _ (by omega)
    have h6 : 16 * 3 ^ dep (.call .joined ts) = 3 * (16 * 3 ^ deps ts) := by
      simp only [dep, Nat.pow_succ]; omega
    omega
  | @has ns f h =>
    obtain ⟨x, h1, h2⟩ := look_fits E h
    exact ⟨.bl (!isNon x), by simp [ev, evs, h1, app], _, rfl⟩
  | not _ ih =>
    obtain ⟨r, e, b, rfl⟩ := ih
    exact ⟨.bl (!b), by simp [ev, evs, e, app], _, rfl⟩
  | @equal k x y _ _ ih1 ih2 =>
    obtain ⟨r, e, h1⟩ := ih1
    obtain ⟨r', e', h2⟩ := ih2
    cases k with
    | text =>
      obtain ⟨a, rfl, _⟩ := h1
      obtain ⟨b, rfl, _⟩ := h2
      exact ⟨.bl (decide (a = b)), by simp [ev, evs, e, e', app], _, rfl⟩
    | number =>
      obtain ⟨a, rfl⟩ := h1
      obtain ⟨b, rfl⟩ := h2
      exact ⟨.bl (decide (a = b)), by simp [ev, evs, e, e', app], _, rfl⟩
    | flag =>
      obtain ⟨a, rfl⟩ := h1
      obtain ⟨b, rfl⟩ := h2
      exact ⟨.bl (decide (a = b)), by simp [ev, evs, e, e', app], _, rfl⟩
  | less _ _ ih1 ih2 =>
    obtain ⟨r, e, a, rfl⟩ := ih1
    obtain ⟨r', e', b, rfl⟩ := ih2
    exact ⟨.bl (decide (a < b)), by simp [ev, evs, e, e', app], _, rfl⟩
  | both _ _ ih1 ih2 =>
    obtain ⟨r, e, a, rfl⟩ := ih1
    obtain ⟨r', e', b, rfl⟩ := ih2
    exact ⟨.bl (a && b), by simp [ev, evs, e, e', app], _, rfl⟩
  | either _ _ ih1 ih2 =>
    obtain ⟨r, e, a, rfl⟩ := ih1
    obtain ⟨r', e', b, rfl⟩ := ih2
    exact ⟨.bl (a || b), by simp [ev, evs, e, e', app], _, rfl⟩

/-! ### the reads alone -/
/-- what «the same» tells of two values: what an expression may look at -/
def Shal : Th → Th → Prop
  | .str x, .str y => x = y
  | .int x, .int y => x = y
  | .bl x, .bl y => x = y
  | .non, .non => True
  | .lst a, .lst b => a.length = b.length
  | .rcd _ _, .rcd _ _ => True
  | _, _ => False
theorem Shal.non {a b : Th} (h : Shal a b) : isNon a = isNon b := by
  cases a <;> cases b <;> first | rfl | exact h.elim
theorem Shal.kind {k : Kd} {a b : Th} (h : Shal a b) (f : Fits k.fm a) : a = b := by
  cases k <;> cases f <;> cases b <;> first | exact h.elim | exact congrArg _ h
theorem evs_eq {ρ ρ' : Str → Option Th} : ∀ {ts : List Tree}, (∀ t ∈ ts, ev ρ t = ev ρ' t) → evs ρ ts = evs ρ' ts
  | [], _ => by simp only [evs]
  | t :: r, h => by
    simp only [evs]
    rw [h t (by simp), evs_eq fun u hu => h u (by simp [hu])]
theorem wt_shal {sc : Str → Option Fm} {ρ ρ' : Str → Option Th} (E : EnvFits sc ρ) (E' : EnvFits sc ρ') {k : Kd} {t : Tree} (h : WT sc k t)
    (hs : ∀ ns ∈ rds t, ∀ a b, look ρ ns = some a → look ρ' ns = some b → Shal a b) : ev ρ t = ev ρ' t := by
  induction h with
  | get h =>
    obtain ⟨a, h1, h2⟩ := look_fits E h
    obtain ⟨b, h3, _⟩ := look_fits E' h
    have e := (hs _ (by simp [rds]) a b h1 h3).kind h2
    simp only [ev]
    rw [h1, h3, e]
  | text h => simp only [ev]
  | number h => simp only [ev]
  | flag b => simp only [ev]
  | @orElse k ns y h hy ih =>
    obtain ⟨a, h1, h2⟩ := look_fits E h
    obtain ⟨b, h3, _⟩ := look_fits E' h
    have q := hs ns (by simp [rds, rdss]) a b h1 h3
    have iy := ih fun m hm => hs m (by simp [rds, rdss, hm])
    have e : a = b := by
      cases h2 with
      | none => cases b <;> first | rfl | exact q.elim
      | some h2 => exact q.kind h2
    simp only [ev, evs]
    rw [h1, h3, e, iy]
  | @size ns f h hf =>
    obtain ⟨a, h1, h2⟩ := look_fits E h
    obtain ⟨b, h3, h4⟩ := look_fits E' h
    have q := hs ns (by simp [rds, rdss]) a b h1 h3
    simp only [ev, evs]
    rw [h1, h3]
    cases h2 with
    | list _ _ =>
      cases h4 with
      | list _ _ =>
        have q : _ = _ := q
        simp [app, q]
    | keyed _ _ =>
      cases h4 with
      | keyed _ _ =>
        have q : _ = _ := q
        simp [app, q]
    | _ => simp [Fm.isList] at hf
  | @sum ts h0 hl h ih =>
    simp only [ev]
    rw [evs_eq fun t ht => ih t ht fun m hm => hs m (by simp only [rds]; exact rdss_mem ht hm)]
  | @joined ts h0 hl h ih =>
    simp only [ev]
    rw [evs_eq fun t ht => ih t ht fun m hm => hs m (by simp only [rds]; exact rdss_mem ht hm)]
  | @has ns f h =>
    obtain ⟨a, h1, h2⟩ := look_fits E h
    obtain ⟨b, h3, h4⟩ := look_fits E' h
    have q := (hs ns (by simp [rds, rdss]) a b h1 h3).non
    simp only [ev, evs]
    rw [h1, h3]
    simp [app, q]
  | not _ ih =>
    simp only [ev, evs]
    rw [ih fun m hm => hs m (by simp [rds, rdss, hm])]
  | equal _ _ ih1 ih2 =>
    simp only [ev, evs]
    rw [ih1 fun m hm => hs m (by simp [rds, rdss, hm]), ih2 fun m hm => hs m (by simp [rds, rdss, hm])]
  | less _ _ ih1 ih2 =>
    simp only [ev, evs]
    rw [ih1 fun m hm => hs m (by simp [rds, rdss, hm]), ih2 fun m hm => hs m (by simp [rds, rdss, hm])]
  | both _ _ ih1 ih2 =>
    simp only [ev, evs]
    rw [ih1 fun m hm => hs m (by simp [rds, rdss, hm]), ih2 fun m hm => hs m (by simp [rds, rdss, hm])]
  | either _ _ ih1 ih2 =>
    simp only [ev, evs]
    rw [ih1 fun m hm => hs m (by simp [rds, rdss, hm]), ih2 fun m hm => hs m (by simp [rds, rdss, hm])]
/-- each read of a typed expression has a kind -/
theorem wt_reads {sc : Str → Option Fm} {k : Kd} {t : Tree} (h : WT sc k t) : ∀ ns ∈ rds t, ∃ f, lookF sc ns = some f := by
  induction h with
  | get h => intro ns hn; simp [rds] at hn; subst hn; exact ⟨_, h⟩
  | text h => intro ns hn; simp [rds] at hn
  | number h => intro ns hn; simp [rds] at hn
  | flag b => intro ns hn; simp [rds] at hn
  | orElse h _ ih =>
    intro ns hn
    simp [rds, rdss] at hn
    rcases hn with e | e
    · subst e; exact ⟨_, h⟩
    · exact ih ns e
  | size h _ => intro ns hn; simp [rds, rdss] at hn; subst hn; exact ⟨_, h⟩
  | sum _ _ _ ih =>
    intro ns hn
    simp only [rds] at hn
    obtain ⟨t, ht, hm⟩ := mem_rdss hn
    exact ih t ht ns hm
  | joined _ _ _ ih =>
    intro ns hn
    simp only [rds] at hn
    obtain ⟨t, ht, hm⟩ := mem_rdss hn
    exact ih t ht ns hm
  | has h => intro ns hn; simp [rds, rdss] at hn; subst hn; exact ⟨_, h⟩
  | not _ ih => intro ns hn; simp [rds, rdss] at hn; exact ih ns hn
  | equal _ _ ih1 ih2 => intro ns hn; simp [rds, rdss] at hn; exact hn.elim (ih1 ns) (ih2 ns)
  | less _ _ ih1 ih2 => intro ns hn; simp [rds, rdss] at hn; exact hn.elim (ih1 ns) (ih2 ns)
  | both _ _ ih1 ih2 => intro ns hn; simp [rds, rdss] at hn; exact hn.elim (ih1 ns) (ih2 ns)
  | either _ _ ih1 ih2 => intro ns hn; simp [rds, rdss] at hn; exact hn.elim (ih1 ns) (ih2 ns)
end RT
/-! how forms, trees and things lie in the heap; what stays; freezing -/
namespace RT
open PySem PySem.Spec PyProof.Rows L2 Evl

/-! ### what never changes: tuples, frozen things -/
structure Im (H H' : Hp) : Prop where
  tup : ∀ a xs, H a = some (.tup xs) → H' a = some (.tup xs)
  frz : ∀ a o u, H a = some (.frz o u) → H' a = some (.frz o u)
theorem Im.refl (H : Hp) : Im H H := ⟨fun _ _ h => h, fun _ _ _ h => h⟩
theorem Im.trans {H H1 H2 : Hp} (a : Im H H1) (b : Im H1 H2) : Im H H2 := ⟨fun x y h => b.tup x y (a.tup x y h), fun x y z h => b.frz x y z (a.frz x y z h)⟩
theorem Im.ex {H H' : Hp} (e : Ex H H') : Im H H' := ⟨fun a xs h => e a _ h, fun a o u h => e a _ h⟩
theorem Im.upd {H : Hp} {a : Addr} {o : HO} (h : ∀ u, H a = some u → (∀ xs, u ≠ .tup xs) ∧ ∀ ob v, u ≠ .frz ob v) : Im H (upd H a o) := by
  refine ⟨fun b xs e => ?_, fun b ob u e => ?_⟩
  · rw [upd_ne]
    · exact e
    · rintro rfl
      exact (h _ e).1 xs rfl
  · rw [upd_ne]
    · exact e
    · rintro rfl
      exact (h _ e).2 ob u rfl
theorem Im.new {H : Hp} {a : Addr} {o : HO} (h : H a = none) : Im H (L2.upd H a o) := Im.upd fun u e => by rw [h] at e; cases e
theorem Im.lst {H : Hp} {a : Addr} {o : HO} {xs : List V} (h : H a = some (.lst xs)) : Im H (L2.upd H a o) := Im.upd fun u e => by rw [h] at e; cases e; exact ⟨fun _ z => (by cases z), fun _ _ z => (by cases z)⟩
theorem Im.dK {H : Hp} {a : Addr} {o : HO} {xs : List (Key × V)} (h : H a = some (.dK xs)) : Im H (L2.upd H a o) := Im.upd fun u e => by rw [h] at e; cases e; exact ⟨fun _ z => (by cases z), fun _ _ z => (by cases z)⟩
theorem Im.rd {H H' : Hp} (m : Im H H') {a : Addr} {xs : List V} (h : Rd H a (.tup xs)) : Rd H' a (.tup xs) := by
  rcases h with h | ⟨o, h⟩
  · exact .inl (m.tup _ _ h)
  · exact .inr ⟨o, m.frz _ _ _ h⟩
theorem Im.sqT {K : PySem.W.Frag} {H H' : Hp} (m : Im H H') {a : Addr} {xs : List V} (h : SqT K H a xs) : SqT K H' a xs := by
  rcases h with h | h
  · exact .inl (m.rd h)
  · exact .inr h

/-! ### data of tuples alone -/
mutual
def noL : PyData → Bool
  | .list _ => false
  | .tuple ds => noLs ds
  | _ => true
def noLs : List PyData → Bool
  | [] => true
  | d :: r => noL d && noLs r
end
mutual
theorem Dp.im {K : PySem.W.Frag} {H H' : Hp} (m : Im H H') : ∀ {d : PyData} {v : V}, noL d = true → Dp K H v d → Dp K H' v d
  | _, _, _, .non => .non
  | _, _, _, .bl b => .bl b
  | _, _, _, .int i => .int i
  | _, _, _, .str x => .str x
  | _, _, h, .lst _ _ => by simp [noL] at h
  | _, _, h, .tup s a => .tup (m.sqT s) (DpAll.im m (by simpa [noL] using h) a)
theorem DpAll.im {K : PySem.W.Frag} {H H' : Hp} (m : Im H H') : ∀ {ds : List PyData} {vs : List V}, noLs ds = true → DpAll K H vs ds → DpAll K H' vs ds
  | _, _, _, .nil => .nil
  | _, _, h, .cons a b => by
    simp only [noLs, Bool.and_eq_true] at h
    exact .cons (Dp.im m h.1 a) (DpAll.im m h.2 b)
end
theorem Dp.tupInv {K : PySem.W.Frag} {H : Hp} {v : V} {ds : List PyData} (h : Dp K H v (.tuple ds)) : ∃ a xs, v = .ref a ∧ SqT K H a xs ∧ DpAll K H xs ds := by
  cases h with
  | tup s a => exact ⟨_, _, rfl, s, a⟩
theorem Dp.strInv {K : PySem.W.Frag} {H : Hp} {v : V} {x : Str} (h : Dp K H v (.str x)) : v = .str x := by cases h; rfl
theorem Dp.intInv {K : PySem.W.Frag} {H : Hp} {v : V} {x : Int} (h : Dp K H v (.int x)) : v = .int x := by cases h; rfl
theorem Dp.blInv {K : PySem.W.Frag} {H : Hp} {v : V} {x : Bool} (h : Dp K H v (.bool x)) : v = .bl x := by cases h; rfl
theorem DpAll.length {K : PySem.W.Frag} {H : Hp} : ∀ {vs : List V} {ds : List PyData}, DpAll K H vs ds → vs.length = ds.length
  | _, _, .nil => rfl
  | _, _, .cons _ b => by rw [List.length_cons, List.length_cons, DpAll.length b]
theorem DpAll.get {K : PySem.W.Frag} {H : Hp} : ∀ {vs : List V} {ds : List PyData}, DpAll K H vs ds → ∀ {i : Nat} {d : PyData}, ds[i]? = some d → ∃ v, vs[i]? = some v ∧ Dp K H v d
  | _, _, .nil, _, _, h => by simp at h
  | _, _, .cons a b, 0, _, h => by simp at h; subst h; exact ⟨_, rfl, a⟩
  | _, _, .cons a b, i + 1, _, h => by
    obtain ⟨v, h1, h2⟩ := DpAll.get b (i := i) (by simpa using h)
    exact ⟨v, by simpa using h1, h2⟩
theorem DpAll.getV {K : PySem.W.Frag} {H : Hp} : ∀ {vs : List V} {ds : List PyData}, DpAll K H vs ds → ∀ {i : Nat} {v : V}, vs[i]? = some v → ∃ d, ds[i]? = some d ∧ Dp K H v d
  | _, _, .nil, _, _, h => by simp at h
  | _, _, .cons a b, 0, _, h => by simp at h; subst h; exact ⟨_, rfl, a⟩
  | _, _, .cons a b, i + 1, _, h => by
    obtain ⟨v, h1, h2⟩ := DpAll.getV b (i := i) (by simpa using h)
    exact ⟨v, by simpa using h1, h2⟩
theorem DpAll.snoc {K : PySem.W.Frag} {H : Hp} : ∀ {vs : List V} {ds : List PyData} {v : V} {d : PyData}, DpAll K H vs ds → Dp K H v d → DpAll K H (vs ++ [v]) (ds ++ [d])
  | _, _, _, _, .nil, h => .cons h .nil
  | _, _, _, _, .cons a b, h => .cons a (DpAll.snoc b h)
theorem DpAll.strs {K : PySem.W.Frag} {H : Hp} : ∀ (xs : List Str), DpAll K H (xs.map V.str) (xs.map PyData.str)
  | [] => .nil
  | x :: r => .cons (.str x) (DpAll.strs r)
theorem DpAll.strsInv {K : PySem.W.Frag} {H : Hp} : ∀ {xs : List Str} {vs : List V}, DpAll K H vs (xs.map PyData.str) → vs = xs.map V.str
  | [], _, .nil => rfl
  | x :: r, _, .cons a b => by
    rw [Dp.strInv a, DpAll.strsInv b]
    rfl
/-- a tuple just laid -/
theorem Dp.new {K : PySem.W.Frag} {H : Hp} {p : Addr} {xs : List V} {ds : List PyData} (hp : H p = none) (h : DpAll K H xs ds) (hn : noLs ds = true) : Dp K (upd H p (.tup xs)) (.ref p) (.tuple ds) :=
  .tup (SqT.of upd_same) (DpAll.im (Im.new hp) hn h)

/-! ### forms and trees as data -/
mutual
def pd : Fm → PyData
  | .text => .tuple [.str "text"]
  | .number => .tuple [.str "number"]
  | .flag => .tuple [.str "flag"]
  | .list f => .tuple [.str "list", pd f]
  | .keyed f k => .tuple [.str "keyed", pd f, .str k]
  | .opt f => .tuple [.str "optional", pd f]
  | .rcd ns fs => .tuple [.str "record", .tuple (pds ns fs)]
def pds : List Str → List Fm → List PyData
  | n :: ns, f :: fs => .tuple [.str n, pd f] :: pds ns fs
  | _, _ => []
end
def Wd.str : Wd → Str
  | .equal => "equal"
  | .less => "less"
  | .not => "not"
  | .both => "both"
  | .either => "either"
  | .sum => "sum"
  | .joined => "joined"
  | .size => "size"
  | .has => "has"
  | .orElse => "or_else"
mutual
def td : Tree → PyData
  | .get ns => .tuple [.str "get", .tuple (ns.map PyData.str)]
  | .text x => .tuple [.str "text", .str x]
  | .number n => .tuple [.str "number", .int n]
  | .flag b => .tuple [.str "flag", .bool b]
  | .call w ts => .tuple [.str "call", .str w.str, .tuple (tds ts)]
def tds : List Tree → List PyData
  | [] => []
  | t :: r => td t :: tds r
end
theorem noL_strs : ∀ xs : List Str, noLs (xs.map PyData.str) = true
  | [] => rfl
  | x :: r => by simp [noLs, noL, noL_strs r]
mutual
theorem noL_pd : ∀ f : Fm, noL (pd f) = true
  | .text => rfl
  | .number => rfl
  | .flag => rfl
  | .list f => by simp [pd, noL, noLs, noL_pd f]
  | .keyed f k => by simp [pd, noL, noLs, noL_pd f]
  | .opt f => by simp [pd, noL, noLs, noL_pd f]
  | .rcd ns fs => by simp [pd, noL, noLs, noL_pds ns fs]
theorem noL_pds : ∀ (ns : List Str) (fs : List Fm), noLs (pds ns fs) = true
  | n :: ns, f :: fs => by simp [pds, noL, noLs, noL_pd f, noL_pds ns fs]
  | [], _ => by simp [pds, noLs]
  | _ :: _, [] => by simp [pds, noLs]
end
mutual
theorem noL_td : ∀ t : Tree, noL (td t) = true
  | .get ns => by simp [td, noL, noLs, noL_strs]
  | .text x => rfl
  | .number n => rfl
  | .flag b => rfl
  | .call w ts => by simp [td, noL, noLs, noL_tds ts]
theorem noL_tds : ∀ ts : List Tree, noLs (tds ts) = true
  | [] => rfl
  | t :: r => by simp [tds, noLs, noL_td t, noL_tds r]
end
theorem pds_len : ∀ {ns : List Str} {fs : List Fm}, ns.length = fs.length → (pds ns fs).length = ns.length
  | [], _, _ => by simp [pds]
  | _ :: _, [], h => by simp at h
  | n :: ns, f :: fs, h => by simp [pds, pds_len (ns := ns) (fs := fs) (by simpa using h)]
theorem pds_get : ∀ {ns : List Str} {fs : List Fm} {i : Nat} {n : Str} {f : Fm}, ns[i]? = some n → fs[i]? = some f → (pds ns fs)[i]? = some (.tuple [.str n, pd f])
  | [], _, _, _, _, h, _ => by simp at h
  | _ :: _, [], _, _, _, _, h => by simp at h
  | n :: ns, f :: fs, 0, _, _, h1, h2 => by simp at h1 h2; subst h1 h2; simp [pds]
  | n :: ns, f :: fs, i + 1, _, _, h1, h2 => by
    simp only [pds, List.getElem?_cons_succ]
    exact pds_get (by simpa using h1) (by simpa using h2)
theorem pds_snoc : ∀ {ns : List Str} {fs : List Fm} {n : Str} {f : Fm}, ns.length = fs.length → pds (ns ++ [n]) (fs ++ [f]) = pds ns fs ++ [.tuple [.str n, pd f]]
  | [], [], _, _, _ => by simp [pds]
  | [], _ :: _, _, _, h => by simp at h
  | _ :: _, [], _, _, h => by simp at h
  | n :: ns, f :: fs, m, g, h => by
    simp only [List.cons_append, pds]
    rw [pds_snoc (by simpa using h)]
theorem tds_len : ∀ ts : List Tree, (tds ts).length = ts.length
  | [] => rfl
  | t :: r => by simp [tds, tds_len r]
theorem tds_get : ∀ {ts : List Tree} {i : Nat} {t : Tree}, ts[i]? = some t → (tds ts)[i]? = some (td t)
  | [], _, _, h => by simp at h
  | t :: r, 0, _, h => by simp at h; subst h; simp [tds]
  | t :: r, i + 1, _, h => by
    simp only [tds, List.getElem?_cons_succ]
    exact tds_get (by simpa using h)
theorem tds_snoc : ∀ (ts : List Tree) (t : Tree), tds (ts ++ [t]) = tds ts ++ [td t]
  | [], _ => rfl
  | t :: r, u => by
    show td t :: tds (r ++ [u]) = td t :: (tds r ++ [td u])
    rw [tds_snoc r u]
abbrev FmAt (K : PySem.W.Frag) (H : Hp) (v : V) (f : Fm) : Prop := Dp K H v (pd f)
abbrev TrAt (K : PySem.W.Frag) (H : Hp) (v : V) (t : Tree) : Prop := Dp K H v (td t)
theorem FmAt.im {K : PySem.W.Frag} {H H' : Hp} {v : V} {f : Fm} (h : FmAt K H v f) (m : Im H H') : FmAt K H' v f := Dp.im m (noL_pd f) h
theorem TrAt.im {K : PySem.W.Frag} {H H' : Hp} {v : V} {t : Tree} (h : TrAt K H v t) (m : Im H H') : TrAt K H' v t := Dp.im m (noL_td t) h

/-! ### things: tuples, and dicts that are frozen -/
inductive ThAt (H : Hp) : V → Th → Prop where
  | non : ThAt H .non .non
  | bl (b : Bool) : ThAt H (.bl b) (.bl b)
  | int (i : Int) : ThAt H (.int i) (.int i)
  | str (x : Str) : ThAt H (.str x) (.str x)
  | lst {a : Addr} {vs : List V} {ts : List Th} : H a = some (.tup vs) → vs.length = ts.length → (∀ (i : Nat) (v : V) (t : Th), vs[i]? = some v → ts[i]? = some t → ThAt H v t) → ThAt H (.ref a) (.lst ts)
  | rcd {a : Addr} {o : Obj} {kvs : List (Key × V)} {ns : List Str} {ts : List Th} : H a = some (.frz o (.dK kvs)) → kvs.map (·.1) = ns.map Sum.inr → kvs.length = ts.length →
      (∀ (i : Nat) (v : V) (t : Th), (kvs.map (·.2))[i]? = some v → ts[i]? = some t → ThAt H v t) → ThAt H (.ref a) (.rcd ns ts)
theorem ThAt.im {H H' : Hp} (m : Im H H') {v : V} {t : Th} (h : ThAt H v t) : ThAt H' v t := by
  induction h with
  | non => exact .non
  | bl b => exact .bl b
  | int i => exact .int i
  | str x => exact .str x
  | lst e l _ ih => exact .lst (m.tup _ _ e) l ih
  | rcd e k l _ ih => exact .rcd (m.frz _ _ _ e) k l ih

/-! ### a dict of names: what stands under a name -/
theorem valV_field {ns : List Str} : ∀ {kvs : List (Key × V)} (_ : kvs.map (·.1) = ns.map Sum.inr) (n : Str), valV kvs (Sum.inr n) = fieldOf ns (kvs.map (·.2)) n := by
  induction ns with
  | nil =>
    intro kvs h n
    cases kvs with
    | nil => rfl
    | cons _ _ => simp at h
  | cons m ns ih =>
    intro kvs h n
    cases kvs with
    | nil => simp at h
    | cons p r =>
      simp only [List.map_cons, List.cons.injEq] at h
      obtain ⟨h1, h2⟩ := h
      by_cases e : m = n
      · subst e
        rw [valV_pos h1]
        simp [fieldOf]
      · have hne : ¬ p.1 = Sum.inr n := by
          rw [h1]
          intro z
          exact e (Sum.inr.inj z)
        rw [valV_neg hne, ih h2 n]
        simp [fieldOf, e]

theorem ThAt.field {H : Hp} {v : V} {ns : List Str} {ts : List Th} {n : Str} {t : Th} (h : ThAt H v (.rcd ns ts)) (e : fieldOf ns ts n = some t) :
    ∃ a o kvs v', v = .ref a ∧ H a = some (.frz o (.dK kvs)) ∧ valV kvs (Sum.inr n) = some v' ∧ ThAt H v' t := by
  cases h with
  | @rcd a o kvs _ _ h1 h2 h3 h4 =>
    obtain ⟨i, y, e1, e2, e3⟩ := field_some (ys := kvs.map (·.2)) e (by simpa using h3)
    exact ⟨a, o, kvs, y, rfl, h1, by rw [valV_field h2]; exact e1, h4 i y t e3 e2⟩
/-- a dict of things by their names -/
def EnvAt (H : Hp) (d : Addr) (ρ : Str → Option Th) : Prop := ∃ kvs, Rd H d (.dK kvs) ∧ ∀ n t, ρ n = some t → ∃ v, valV kvs (Sum.inr n) = some v ∧ ThAt H v t

/-! ### freezing -/
theorem Inv.frz1 {X : Cx} {pins : List (Addr × Obj)} {σ : L2.St} {H : Hp} {s : Shared} {d : Addr} {kvs : List (Key × V)} (I : Inv X pins σ H s) (h : H d = some (.dK kvs)) : ∃ od, Inv X pins σ (upd H d (.frz od (.dK kvs))) s := I.lock h trivial
inductive FrzTo (Q : Hp → Prop) : Hp → Prop where
  | done {H : Hp} : Q H → FrzTo Q H
  | step {H : Hp} {d : Addr} {kvs : List (Key × V)} : H d = some (.dK kvs) → (∀ od, FrzTo Q (upd H d (.frz od (.dK kvs)))) → FrzTo Q H
theorem Inv.frzTo {X : Cx} {pins : List (Addr × Obj)} {σ : L2.St} {s : Shared} {Q : Hp → Prop} {H : Hp} (h : FrzTo Q H) : Inv X pins σ H s → ∃ H', Inv X pins σ H' s ∧ Q H' := by
  induction h with
  | done q => exact fun I => ⟨_, I, q⟩
  | step e _ ih =>
    intro I
    obtain ⟨od, I1⟩ := Inv.frz1 I e
    exact ih od I1
def tFrz (t : TE) : TE := fun σ H Q => t σ H fun v H1 => FrzTo (Q v) H1
section
variable {X : Cx} {e : Expr} {t : TE}
theorem pe_frz (h : PE X e t) : PE X e (tFrz t) := by
  refine ⟨fun pins s σ H Q I hw => ?_⟩
  refine thn (h.run pins s σ H _ I hw) fun v s1 ⟨x, H1, I1, r, q⟩ => ?_
  obtain ⟨H2, I2, q2⟩ := Inv.frzTo q I1
  exact ⟨x, H2, I2, r, q2⟩
end

/-! ### the pool -/
def PoolAt (H : Hp) (p : Addr) : Prop := ∃ s g c : Int, H p = some (.lst [.int s, .int g, .int c]) ∧ 0 ≤ s ∧ s < 1000000007 ∧ 0 ≤ g
/-- all but the pool stays, and the pool is one -/
structure Pl (p : Addr) (H H' : Hp) : Prop where
  pool : PoolAt H' p
  keep : ∀ a o, a ≠ p → H a = some o → H' a = some o
theorem Pl.refl {p : Addr} {H : Hp} (h : PoolAt H p) : Pl p H H := ⟨h, fun _ _ _ e => e⟩
theorem Pl.trans {p : Addr} {H H1 H2 : Hp} (a : Pl p H H1) (b : Pl p H1 H2) : Pl p H H2 := ⟨b.pool, fun x o n e => b.keep x o n (a.keep x o n e)⟩
theorem Pl.ex {p : Addr} {H H1 H2 : Hp} (a : Pl p H H1) (b : Ex H1 H2) : Pl p H H2 := ⟨let ⟨s, g, c, e, r⟩ := a.pool; ⟨s, g, c, b _ _ e, r⟩, fun x o n e => b x o (a.keep x o n e)⟩
theorem Pl.of_ex {p : Addr} {H H' : Hp} (h : PoolAt H p) (b : Ex H H') : Pl p H H' := (Pl.refl h).ex b
theorem PoolAt.ne {H : Hp} {p a : Addr} {o : HO} (h : PoolAt H p) (e : H a = some o) (n : ∀ xs, o ≠ .lst xs) : a ≠ p := by
  obtain ⟨s, g, c, q, _⟩ := h
  rintro rfl
  rw [e] at q
  exact n _ (Option.some.inj q)
theorem Pl.im {p : Addr} {H H' : Hp} (h : PoolAt H p) (a : Pl p H H') : Im H H' :=
  ⟨fun x xs e => a.keep x _ (h.ne e (by intro ys z; cases z)) e, fun x o u e => a.keep x _ (h.ne e (by intro ys z; cases z)) e⟩
theorem Pl.free {p : Addr} {H H' : Hp} (h : PoolAt H p) (a : Pl p H H') {x : Addr} (e : H' x = none) : H x = none := by
  cases q : H x with
  | none => rfl
  | some o =>
    by_cases hx : x = p
    · subst hx
      obtain ⟨_, _, _, z, _⟩ := a.pool
      rw [z] at e
      cases e
    · rw [a.keep x o hx q] at e
      cases e
theorem Pl.new {p : Addr} {H H' : Hp} (h : PoolAt H p) (a : Pl p H H') {x : Addr} {o : HO} (e : H' x = none) : Pl p H (upd H' x o) := a.ex (Ex.new e)
/-- an own new object is changed -/
theorem Pl.mut {p : Addr} {H H' : Hp} (h : PoolAt H p) (a : Pl p H H') {x : Addr} {o : HO} (e : H x = none) : Pl p H (upd H' x o) := by
  have hx : p ≠ x := by
    obtain ⟨_, _, _, z, _⟩ := h
    exact ne_of_none z e
  refine ⟨?_, fun b u n q => ?_⟩
  · obtain ⟨s, g, c, z, r⟩ := a.pool
    exact ⟨s, g, c, by rw [upd_ne hx]; exact z, r⟩
  · rw [upd_ne (ne_of_none q e)]
    exact a.keep b u n q
end RT
/-! comprehensions by what each item is; texts by their codes -/
namespace RT
open PySem PySem.Spec PyProof.Rows L2 Evl

section
variable {J : It} {n : Nat} {G : Hp → Prop} {Y : Nat → Hp → V → Hp → Prop} {g : TG} {te : TE} {tt : TT} {vs : List Nat} {σ : L2.St} {H1 : Hp} {D : Addr} {Qd : Hp → Prop}
/-- [e for .. in ..]: each item's value told by R -/
theorem lc_gen (w : Walk J n G Y) (Fr : Hp → Prop) (R : Nat → V → Hp → Prop) (h0 : Fr (upd H1 D (.lst []))) (hmut : ∀ H' o, Fr H' → Fr (upd H' D o)) (hG : ∀ H', Fr H' → G H')
    (hR : ∀ i v H' H'', R i v H' → Im H' H'' → R i v H'') (hn : n < sizeLine)
    (hs : ∀ i x H' H'' (C : V → Hp → Prop), i < n → Fr H' → (∃ acc, H' D = some (.lst acc)) → Y i H' x H'' → (∀ y H4, Fr H4 → Im H' H4 → H4 D = H' D → R i y H4 → C y H4) → g x (wipe σ vs) H'' fun σ2 H2 => wipe σ2 vs = wipe σ vs ∧ te σ2 H2 C)
    (hd : ∀ H' acc, Fr H' → H' D = some (.lst acc) → acc.length = n → (∀ (i : Nat) v, acc[i]? = some v → R i v H') → Qd H') :
    ∃ W : Nat → Nat → Hp → Prop, (∃ m, W 0 m (upd H1 D (.lst []))) ∧ ∀ i m H, W i m H →
      (J.stop i H ∧ Qd H) ∨ (J.go i H ∧ ∃ Nx : Hp → Prop, (∀ H', Nx H' → ∃ m', m' < m ∧ W (i + 1) m' H') ∧ ∀ x H', J.yld i H x H' → g x (wipe σ vs) H' fun σ2 H2 => wipe σ2 vs = wipe σ vs ∧ tYes σ2 H2 fun b H3 =>
        if b = true then te σ2 H3 fun y H4 => ∃ acc, H4 D = some (.lst acc) ∧ acc.length < sizeLine ∧ Nx (upd H4 D (.lst (acc ++ [y]))) else Nx H3) := by
  refine lc_it w (fun i H => ∃ acc, Fr H ∧ H D = some (.lst acc) ∧ acc.length = i ∧ ∀ (j : Nat) v, acc[j]? = some v → R j v H) ⟨[], h0, upd_same, rfl, by simp⟩ (fun i H _ ⟨_, f, _⟩ => hG H f) ?_ (fun H ⟨acc, f, e, l, r⟩ => hd H acc f e l r)
  rintro i x H H' hi ⟨acc, f, e, l, r⟩ y
  refine hs i x H H' _ hi f ⟨acc, e⟩ y fun v H4 z1 z2 z3 z4 => ?_
  have ed : H4 D = some (.lst acc) := z3.trans e
  refine ⟨acc, ed, by omega, acc ++ [v], hmut _ _ z1, upd_same, by simp [l], fun j u hj => ?_⟩
  have im4 : Im H4 (upd H4 D (.lst (acc ++ [v]))) := Im.lst ed
  by_cases hj2 : j < acc.length
  · rw [List.getElem?_append_left hj2] at hj
    exact hR j u _ _ (r j u hj) (z2.trans im4)
  · rw [List.getElem?_append_right (by omega)] at hj
    have h0 : j - acc.length = 0 := by
      cases q : j - acc.length with
      | zero => rfl
      | succ k => rw [q] at hj; simp at hj
    rw [h0] at hj
    simp at hj
    have ej : j = i := by omega
    subst ej
    rw [← hj]
    exact hR _ _ _ _ z4 im4
/-- [e for .. in .. if t]: all that is kept is told by R -/
theorem lc_filt (w : Walk J n G Y) (Fr : Hp → Prop) (R : V → Hp → Prop) (h0 : Fr (upd H1 D (.lst []))) (hmut : ∀ H' o, Fr H' → Fr (upd H' D o)) (hG : ∀ H', Fr H' → G H')
    (hR : ∀ v H' H'', R v H' → Im H' H'' → R v H'') (hn : n < sizeLine)
    (hs : ∀ i x H' H'' (C : V → Hp → Prop) (N : Hp → Prop), i < n → Fr H' → (∃ acc, H' D = some (.lst acc)) → Y i H' x H'' → (∀ y H4, Fr H4 → Im H' H4 → H4 D = H' D → R y H4 → C y H4) → (∀ H3, Fr H3 → Im H' H3 → H3 D = H' D → N H3) →
      g x (wipe σ vs) H'' fun σ2 H2 => wipe σ2 vs = wipe σ vs ∧ tt σ2 H2 fun b H3 => if b = true then te σ2 H3 C else N H3)
    (hd : ∀ H' acc, Fr H' → H' D = some (.lst acc) → acc.length ≤ n → (∀ v, v ∈ acc → R v H') → Qd H') :
    ∃ W : Nat → Nat → Hp → Prop, (∃ m, W 0 m (upd H1 D (.lst []))) ∧ ∀ i m H, W i m H →
      (J.stop i H ∧ Qd H) ∨ (J.go i H ∧ ∃ Nx : Hp → Prop, (∀ H', Nx H' → ∃ m', m' < m ∧ W (i + 1) m' H') ∧ ∀ x H', J.yld i H x H' → g x (wipe σ vs) H' fun σ2 H2 => wipe σ2 vs = wipe σ vs ∧ tt σ2 H2 fun b H3 =>
        if b = true then te σ2 H3 fun y H4 => ∃ acc, H4 D = some (.lst acc) ∧ acc.length < sizeLine ∧ Nx (upd H4 D (.lst (acc ++ [y]))) else Nx H3) := by
  refine lc_it w (fun i H => ∃ acc, Fr H ∧ H D = some (.lst acc) ∧ acc.length ≤ i ∧ ∀ v, v ∈ acc → R v H) ⟨[], h0, upd_same, Nat.le_refl _, by simp⟩ (fun i H _ ⟨_, f, _⟩ => hG H f) ?_ (fun H ⟨acc, f, e, l, r⟩ => hd H acc f e l r)
  rintro i x H H' hi ⟨acc, f, e, l, r⟩ y
  refine hs i x H H' _ _ hi f ⟨acc, e⟩ y (fun v H4 z1 z2 z3 z4 => ?_) (fun H3 f3 i3 d3 => ?_)
  · have ed : H4 D = some (.lst acc) := z3.trans e
    have im4 : Im H4 (upd H4 D (.lst (acc ++ [v]))) := Im.lst ed
    refine ⟨acc, ed, by omega, acc ++ [v], hmut _ _ z1, upd_same, by simp; omega, fun u hu => ?_⟩
    rcases List.mem_append.mp hu with h | h
    · exact hR _ _ _ (r u h) (z2.trans im4)
    · simp at h
      subst h
      exact hR _ _ _ z4 im4
  · exact ⟨acc, f3, d3.trans e, by omega, fun v hv => hR v _ _ (r v hv) i3⟩
end

theorem ex_at {H H' : Hp} {D : Addr} (e : Ex H H') (h : ∃ acc, H D = some (.lst acc)) : H' D = H D := by
  obtain ⟨acc, h⟩ := h
  rw [h]
  exact e _ _ h
theorem pl_at {p : Addr} {H H' : Hp} {D : Addr} (e : Pl p H H') (hp : D ≠ p) (h : ∃ acc, H D = some (.lst acc)) : H' D = H D := by
  obtain ⟨acc, h⟩ := h
  rw [h]
  exact e.keep _ _ hp h

/-! ### pure readings -/
section
variable {σ : L2.St} {H : Hp} {t u : TT} {ta tb : TE} {D : Ends} {t1 t2 : TS}
theorem ans_or2 {b1 b2 : Bool} (h1 : Ans t σ H b1) (h2 : Ans u σ H b2) : Ans (tOr t u) σ H (b1 || b2) := by
  cases b1 with
  | true => exact ans_or1 h1
  | false => exact ans_or h1 h2
theorem st_ifb {c : TT} {b : Bool} (h : Ans c σ H b) (q : if b = true then t1 D σ H else t2 D σ H) : tIfS c t1 t2 D σ H := h _ q
theorem val_andV {x y : Bool} (h1 : Val ta σ H (.bl x)) (h2 : x = true → Val tb σ H (.bl y)) : Val (tAndV ta tb) σ H (.bl (x && y)) := by
  intro Q q
  refine h1 _ ⟨x, rfl, ?_⟩
  cases x with
  | true => exact h2 rfl Q q
  | false => exact q
theorem ans_test {b : Bool} (h : Val ta σ H (.bl b)) : Ans (tTest ta) σ H b := fun Q q => h _ ⟨b, rfl, q⟩
theorem val_eq {x y : V} (ha : Val ta σ H x) (hb : Val tb σ H y) (hs : scal x y = true) : Val (tOp rEq ta tb) σ H (.bl (decide (x = y))) := val_op ha hb fun Q q => ⟨hs, q⟩
end

theorem walk_zipT {K : PySem.W.Frag} {a b : Addr} {xs ys : List V} {n : Nat} (hn : n = min xs.length ys.length) : Walk (RZ.ItzT K a b) n (fun H => SqT K H a xs ∧ SqT K H b ys) (YPair (fun i => xs[i]?) (fun i => ys[i]?)) := by
  subst hn
  refine ⟨fun i _ hi q => ?_, fun _ q => ⟨xs, ys, q.1, q.2, by omega⟩, fun i H v H' _ q y => ?_⟩
  · have h1 : i < xs.length := by omega
    have h2 : i < ys.length := by omega
    exact ⟨xs, ys, xs[i], ys[i], q.1, q.2, by simp [h1], by simp [h2]⟩
  · obtain ⟨T, x, z, h1, h2, h3, h4, h5⟩ := y
    exact ⟨T, x, z, h1, h2, h3, h4 xs q.1, h5 ys q.2⟩
theorem bools_ex : ∀ {acc : List V}, (∀ (i : Nat) v, acc[i]? = some v → ∃ b : Bool, v = .bl b) → ∃ bs : List Bool, acc = bs.map V.bl
  | [], _ => ⟨[], rfl⟩
  | x :: r, h => by
    obtain ⟨b, rfl⟩ := h 0 x rfl
    obtain ⟨bs, e⟩ := bools_ex (acc := r) fun i v hv => h (i + 1) v (by simpa using hv)
    exact ⟨b :: bs, by rw [e]; rfl⟩
theorem strs_of {acc : List V} {ns : List Str} (hl : acc.length = ns.length) (h : ∀ (i : Nat) v, acc[i]? = some v → ∃ n, ns[i]? = some n ∧ v = .str n) : acc = ns.map V.str := by
  apply List.ext_getElem?
  intro i
  by_cases hi : i < acc.length
  · have h1 : acc[i]? = some acc[i] := List.getElem?_eq_getElem hi
    obtain ⟨n, h2, h3⟩ := h i _ h1
    rw [h1, h3, List.getElem?_map, h2]
    rfl
  · rw [List.getElem?_eq_none (by omega), List.getElem?_eq_none (by simp; omega)]

/-! ### texts by their codes -/
theorem sz {n : Nat} (h : n ≤ 100000) : n ≤ sizeLine := Nat.le_trans h (by decide)
theorem szl {n : Nat} (h : n ≤ 100000) : n < sizeLine := Nat.lt_of_le_of_lt h (by decide)
abbrev S (l : List Nat) : Str := SX.S l
theorem S_len (l : List Nat) : (S l).length = l.length := SX.S_len l
theorem S_tl (l : List Nat) : (S l).cps.toList = l := rfl
theorem cut_at (L : List Nat) {a b : Nat} {i j : Int} (hi : i = (a : Int)) (hj : j = (b : Int)) : cutS (S L) (some i) (some j) = S ((L.drop a).take (b - a)) := by
  subst hi hj
  unfold cutS
  rw [S_len, HT.sIx_nat, HT.sIx_nat, S_tl]
  show S ((L.drop (min a L.length)).take (min b L.length - min a L.length)) = S ((L.drop a).take (b - a))
  congr 1
  by_cases h1 : a ≤ L.length
  · rw [Nat.min_eq_left h1]
    by_cases h2 : b ≤ L.length
    · rw [Nat.min_eq_left h2]
    · rw [Nat.min_eq_right (by omega), List.take_of_length_le (by simp), List.take_of_length_le (by simp; omega)]
  · rw [show min a L.length = L.length by omega, List.drop_eq_nil_of_le (Nat.le_refl L.length), List.drop_eq_nil_of_le (show L.length ≤ a by omega)]
    simp
theorem at_code {L : List Nat} {a : Nat} {c : Nat} {i : Int} (hi : i = (a : Int)) (h : L[a]? = some c) : atI (S L).cps.toList i = some c := by
  subst hi
  exact atI_nat h
theorem S_eq {a b : List Nat} : (V.str (S a) = V.str (S b)) ↔ a = b := ⟨fun h => SX.S_inj (V.str.inj h), fun h => by rw [h]⟩
def low (c : Nat) : Bool := decide (97 ≤ c) && decide (c ≤ 122)
def dig (c : Nat) : Bool := decide (48 ≤ c) && decide (c ≤ 57)
theorem letters_at (c : Nat) : decide (c ∈ ("abcdefghijklmnopqrstuvwxyz" : Str).cps.toList) = low c := by
  have e : ("abcdefghijklmnopqrstuvwxyz" : Str).cps.toList = List.range' 97 26 := by decide +kernel
  rw [e, Bool.eq_iff_iff]
  rw [decide_eq_true_iff, List.mem_range'_1]
  simp [low]
  omega
theorem digits_at (c : Nat) : decide (c ∈ ("0123456789" : Str).cps.toList) = dig c := by
  have e : ("0123456789" : Str).cps.toList = List.range' 48 10 := by decide +kernel
  rw [e, Bool.eq_iff_iff]
  rw [decide_eq_true_iff, List.mem_range'_1]
  simp [dig]
  omega
/-- a scan from a on, over the signs with p -/
def twl (p : Nat → Bool) (L : List Nat) (a : Nat) : Nat := ((L.drop a).takeWhile p).length
theorem tw_lt (p : Nat → Bool) : ∀ (l : List Nat) (i : Nat), i < (l.takeWhile p).length → ∃ c, l[i]? = some c ∧ p c = true
  | [], i, h => by simp at h
  | x :: r, i, h => by
    rw [List.takeWhile_cons] at h
    by_cases e : p x = true
    · rw [if_pos e] at h
      cases i with
      | zero => exact ⟨x, rfl, e⟩
      | succ i =>
        obtain ⟨c, h1, h2⟩ := tw_lt p r i (by simpa using h)
        exact ⟨c, by simpa using h1, h2⟩
    · rw [if_neg e] at h
      simp at h
theorem tw_at (p : Nat → Bool) : ∀ (l : List Nat) (c : Nat), l[(l.takeWhile p).length]? = some c → p c = false
  | [], c, h => by simp at h
  | x :: r, c, h => by
    rw [List.takeWhile_cons] at h
    by_cases e : p x = true
    · rw [if_pos e] at h
      exact tw_at p r c (by simpa using h)
    · rw [if_neg e] at h
      simp at h
      subst h
      simpa using e
theorem scan_at (p : Nat → Bool) (L : List Nat) {a e : Nat} (h1 : a ≤ e) (h2 : e ≤ a + twl p L a) :
    (e < a + twl p L a ∧ e < L.length ∧ ∃ c, L[e]? = some c ∧ p c = true) ∨ (e = a + twl p L a ∧ ∀ c, L[e]? = some c → p c = false) := by
  obtain ⟨i, rfl⟩ : ∃ i, e = a + i := ⟨e - a, by omega⟩
  by_cases h : i < twl p L a
  · obtain ⟨c, h3, h4⟩ := tw_lt p (L.drop a) i h
    rw [List.getElem?_drop] at h3
    exact .inl ⟨by omega, (List.getElem?_eq_some_iff.mp h3).1, c, h3, h4⟩
  · have e : i = twl p L a := by omega
    refine .inr ⟨by omega, fun c hc => tw_at p (L.drop a) c ?_⟩
    rw [List.getElem?_drop]
    rw [e] at hc
    exact hc
theorem take_tw (p : Nat → Bool) : ∀ (l : List Nat), l.take (l.takeWhile p).length = l.takeWhile p
  | [] => rfl
  | x :: r => by
    rw [List.takeWhile_cons]
    by_cases e : p x = true
    · rw [if_pos e]
      simp [take_tw p r]
    · rw [if_neg e]
      rfl
theorem scan_cut (p : Nat → Bool) (L : List Nat) (a : Nat) : (L.drop a).take (a + twl p L a - a) = (L.drop a).takeWhile p := by
  rw [Nat.add_sub_cancel_left]
  exact take_tw p _
/-- «while end < len(text) and ..: end += 1»: the scan -/
theorem scan_loop {p : Nat → Bool} {L : List Nat} {a i : Nat} {u : TT} {σ : L2.St} {H : Hp} {D : Ends} (hL : L.length ≤ 100000) (h0 : σ[0]? = some (some (.str (S L)))) (hi : i ≠ 0) (hs : σ[i]? = some (some (.int (a : Int))))
    (hu : ∀ (e c : Nat) (σ' : L2.St) (Q : Bool → Hp → Prop), L[e]? = some c → σ'[0]? = some (some (.str (S L))) → σ'[i]? = some (some (.int (e : Int))) → Q (p c) H → u σ' H Q)
    (hd : D.nx (σ.set i (some (.int ((a + twl p L a : Nat) : Int)))) H) :
    tWhile (tAnd (tTest (tOp (rI0 fun i j => V.bl (decide (i < j))) (tVar i) (tCB (fun xs H Q => ∃ z : Str, xs = [V.str z] ∧ z.length ≤ sizeLine ∧ Q (V.int z.length) H) (tCons (tVar 0) tNil)))) u)
      (tAug i (tC (.int 1)) (ipI fun i j => i + j)) D σ H := by
  have hil : i < σ.length := (List.getElem?_eq_some_iff.mp hs).1
  have g0 : ∀ x, (σ.set i x)[0]? = some (some (.str (S L))) := fun x => by rw [List.getElem?_set_ne hi]; exact h0
  have gi : ∀ x, (σ.set i x)[i]? = some x := fun x => List.getElem?_set_self hil
  refine ⟨fun m σ' H' => ∃ e : Nat, σ' = σ.set i (some (.int (e : Int))) ∧ H' = H ∧ a ≤ e ∧ e ≤ a + twl p L a ∧ m = a + twl p L a - e, ⟨_, a, ?_, rfl, Nat.le_refl _, by omega, rfl⟩, ?_⟩
  · apply List.ext_getElem?
    intro j
    by_cases hj : j = i
    · subst hj
      rw [gi, hs]
    · rw [List.getElem?_set_ne (fun z => hj z.symm)]
  rintro m σ' H' ⟨e, rfl, rfl, h1, h2, rfl⟩
  have hlen : ((S L).length : Int) = (L.length : Int) := by rw [S_len]
  refine ⟨_, gi _, _, g0 _, _, rfl, (by rw [S_len]; exact sz hL), _, _, rfl, rfl, _, rfl, ?_⟩
  rcases scan_at p L h1 h2 with ⟨h3, h4, c, hc, hp⟩ | ⟨h3, h4⟩
  · rw [show decide ((e : Int) < ((S L).length : Int)) = true from decide_eq_true (by omega)]
    refine hu e c _ _ hc (g0 _) (gi _) ?_
    rw [hp]
    refine ⟨fun σ' H2 => σ' = σ.set i (some (.int ((e + 1 : Nat) : Int))) ∧ H2 = H', ?_, ?_⟩
    · rintro σ' H'' ⟨rfl, rfl⟩
      exact ⟨_, by omega, e + 1, rfl, rfl, by omega, by omega, rfl⟩
    · refine ⟨_, gi _, _, _, rfl, rfl, ?_, rfl⟩
      rw [List.set_set]
      rfl
  · have fin : D.nx (σ.set i (some (.int (e : Int)))) H' := by rw [h3]; exact hd
    by_cases h5 : e < L.length
    · rw [show decide ((e : Int) < ((S L).length : Int)) = true from decide_eq_true (by omega)]
      obtain ⟨c, hc⟩ : ∃ c, L[e]? = some c := ⟨_, List.getElem?_eq_getElem h5⟩
      refine hu e c _ _ hc (g0 _) (gi _) ?_
      rw [h4 c hc]
      exact fin
    · rw [show decide ((e : Int) < ((S L).length : Int)) = false from decide_eq_false (by omega)]
      exact fin
/-- the scan over a text that is told -/
theorem tw_app {p : Nat → Bool} : ∀ {X R : List Nat}, (∀ c ∈ X, p c = true) → (∀ c, R.head? = some c → p c = false) → (X ++ R).takeWhile p = X
  | [], R, _, h => by
    cases R with
    | nil => rfl
    | cons c R =>
      have := h c rfl
      rw [List.nil_append, List.takeWhile_cons, this]
      rfl
  | x :: X, R, hx, h => by
    rw [List.cons_append, List.takeWhile_cons, hx x (by simp), if_pos rfl, tw_app (fun c hc => hx c (by simp [hc])) h]
theorem twl_app {p : Nat → Bool} {L X R : List Nat} {a : Nat} (e : L.drop a = X ++ R) (hx : ∀ c ∈ X, p c = true) (h : ∀ c, R.head? = some c → p c = false) : twl p L a = X.length := by
  unfold twl
  rw [e, tw_app hx h]
theorem drop_more {L X R : List Nat} {a : Nat} (e : L.drop a = X ++ R) : L.drop (a + X.length) = R := by
  rw [← List.drop_drop, e, List.drop_left]
theorem get_drop {L : List Nat} {a c : Nat} {R : List Nat} (e : L.drop a = c :: R) : L[a]? = some c := by
  have := congrArg (fun l => l[0]?) e
  rw [List.getElem?_drop] at this
  simpa using this
theorem drop_lt {L : List Nat} {a c : Nat} {R : List Nat} (e : L.drop a = c :: R) : a < L.length := (List.getElem?_eq_some_iff.mp (get_drop e)).1
theorem inV_strs (n : Str) : ∀ ws : List Str, inV (.str n) (ws.map V.str) = decide (n ∈ ws)
  | [] => rfl
  | x :: r => by
    have ih := inV_strs n r
    unfold inV at ih ⊢
    rw [List.map_cons, List.any_cons, ih, Bool.eq_iff_iff]
    simp only [eqV, Bool.or_eq_true, beq_iff_eq, decide_eq_true_eq, List.mem_cons]
    constructor
    · rintro (h | h)
      · exact .inl h.symm
      · exact .inr h
    · rintro (h | h)
      · exact .inl h.symm
      · exact .inr h
theorem flat_strs : ∀ ws : List Str, (ws.map V.str).all flatV = true
  | [] => rfl
  | _ :: r => by rw [List.map_cons, List.all_cons, flat_strs r]; rfl
end RT
/-! names, paths -/
namespace RT
open PySem PySem.Spec PyProof.Rows L2 Evl
section
variable {P : Program} {w : World} {K : PySem.W.Frag} {mg : Str → Option Value} {base : Heap} {k : Nat}
def isNm (L : List Nat) : Bool := decide (0 < L.length) && decide (L.length < 13) && L.all low
theorem all_map_id (L : List Nat) (f : Nat → Bool) : (L.map f).all id = L.all f := by
  induction L with
  | nil => rfl
  | cons a r ih => simp
/-- a list of bools by its items -/
theorem bools_of {acc : List V} {f : Nat → Bool} {n : Nat} (hl : acc.length = n) (h : ∀ (i : Nat) v, acc[i]? = some v → v = .bl (f i)) : acc = ((List.range n).map f).map V.bl := by
  apply List.ext_getElem?
  intro i
  by_cases hi : i < n
  · have h1 : acc[i]? = some acc[i] := List.getElem?_eq_getElem (by omega)
    rw [h1, h i _ h1]
    simp [hi]
  · rw [List.getElem?_eq_none (by omega), List.getElem?_eq_none (by simp; omega)]
abbrev st_is_name : Stmt := (topS 6)
theorem sc_is_name : FnScope ["thing", "letter"] ["thing"] (defScope st_is_name) := ⟨rfl, rfl, rfl, by decide +kernel, rfl, by decide +kernel, by decide +kernel⟩
def spIsName : Sp := fun vs H Q _ => ∃ L : List Nat, vs = [.str (S L)] ∧ L.length ≤ 100000 ∧ ∀ H', Ex H H' → Q (.bl (isNm L)) H'
theorem ok_is_name (T : Bi mg) (F : Df K mg "is_name" ["thing"] st_is_name) : Cl P w K mg base 1 "is_name" spIsName := by
  refine F.ok sc_is_name (fun vs H Q E h => ?_) (fun f cdv A outer s H vs Q E hr h => ?_)
  · obtain ⟨z, rfl, _⟩ := h
    rfl
  obtain ⟨L, rfl, hl, q⟩ := h
  refine ⟨_, (pss_one (ps_ret (pe_and (pe_callB call_isi rfl T.isi (by decide +kernel) (pa_cons (pv 0) (pa_cons (pe_ty (by rfl) T.str "str") pa_nil))) (pe_and (pe_chain op_lt op_lt pe_int (pe_callB call_len_str rfl T.len PySem.boot_len (pa_cons (pv 0) pa_nil)) pe_int) (pe_one (pe_callB (cr_all rfl) rfl T.all (by decide +kernel) (pa_cons (pe_lc (own := [("letter", 1)]) (g := gName 1) (tt := tYes) rfl sc_is_name.nd (pi_str (pv 0)) (blkOk_by (own := [("letter", 1)]) (N := ["thing", "letter"]) (sc := defScope st_is_name) (by decide +kernel)) (fun _ _ _ _ _ => (pg_name (i := 1) sc_is_name.nd rfl (Or.inl rfl))) (fun _ _ _ _ _ => pts_nil) (fun _ _ _ _ _ => (pe_cmpR op_in_sign (pv 1) (C8.pe_gc rfl T.letters) rfl))) pa_nil))))))), ?_⟩
  refine ⟨_, rfl, _, _, _, _, true, rfl, .ty _, .base (.str _), kit_ty (by decide +kernel), true, rfl, ?_⟩
  refine iteT ?_
  refine ⟨_, rfl, _, rfl, (by rw [S_len]; exact sz hl), _, _, rfl, rfl, _, rfl, ?_⟩
  have hn : (S L).length = L.length := S_len L
  refine ite2 (fun c => ?_) (fun c => ?_)
  · have c1 : 0 < L.length := by have := of_decide_eq_true c; omega
    refine ⟨_, _, rfl, rfl, _, rfl, ?_⟩
    refine ite2 (fun c => ?_) (fun c => ?_)
    · have c2 : L.length < 13 := by have := of_decide_eq_true c; omega
      refine ⟨_, rfl, _, rfl, fun D hD => lc_gen walk_str (fun H' => Ex H H') (fun i v _ => ∃ c, L[i]? = some c ∧ v = .bl (low c)) (Ex.new hD) (fun H' o e => e.mut hD) (fun _ _ => trivial) (fun i v H' H'' h _ => h)
        (by show L.length < sizeLine; exact szl hl) ?_ ?_⟩
      · rintro i x H' H'' C hi fr _ ⟨rfl, c, hc, rfl⟩ kk
        refine ⟨rfl, _, rfl, c, _, rfl, rfl, ?_⟩
        rw [letters_at]
        exact kk _ _ fr (Im.refl _) rfl ⟨c, by simpa using hc, rfl⟩
      · intro H' acc fr hacc hlen hall
        have e : acc = (L.map low).map V.bl := by
          have e1 := bools_of (f := fun i => low (L.getD i 0)) hlen fun i v hv => by
            obtain ⟨c, hc, rfl⟩ := hall i v hv
            simp [List.getD, hc]
          rw [e1]
          apply List.ext_getElem?
          intro i
          show _ = _
          by_cases hi : i < L.length
          · simp [hi, List.getD]
          · simp [hi]
        refine ⟨D, L.map low, rfl, SqL.of (by rw [← e]; exact hacc), ?_⟩
        have e2 : isNm L = (L.map low).all id := by
          rw [all_map_id]
          simp [isNm, c1, c2]
        rw [← e2]
        exact q H' fr
    · have c2 : ¬ L.length < 13 := by have := of_decide_eq_false (Bool.eq_false_iff.mpr c); omega
      have e2 : isNm L = false := by simp [isNm, c2]
      have q1 := q H (Ex.refl _)
      rw [e2] at q1
      exact q1
  · have c2 : ¬ 0 < L.length := by have := of_decide_eq_false (Bool.eq_false_iff.mpr c); omega
    have e2 : isNm L = false := by simp [isNm]; omega
    have q1 := q H (Ex.refl _)
    rw [e2] at q1
    exact ⟨_, rfl, q1⟩
abbrev st_name_from : Stmt := (topS 15)
theorem sc_name_from : FnScope ["text", "at", "end"] ["text", "at"] (defScope st_name_from) := ⟨rfl, rfl, rfl, by decide +kernel, rfl, by decide +kernel, by decide +kernel⟩
def spNameFrom : Sp := fun vs H Q _ => ∃ (L : List Nat) (a : Nat), vs = [.str (S L), .int (a : Int)] ∧ L.length ≤ 100000 ∧ Q (.str (S ((L.drop a).takeWhile low))) H
theorem ok_name_from (T : Bi mg) (F : Df K mg "name_from" ["text", "at"] st_name_from) : Cl P w K mg base 1 "name_from" spNameFrom := by
  refine F.ok sc_name_from (fun vs H Q E h => ?_) (fun f cdv A outer s H vs Q E hr h => ?_)
  · obtain ⟨L, a, rfl, _⟩ := h
    rfl
  obtain ⟨L, a, rfl, hl, q⟩ := h
  refine ⟨_, (pss_cons (ps_set (i := 2) sc_name_from.nd rfl (Or.inl rfl) (pv 1))
      (pss_cons (ps_while PassesOwn.never (PW.pt (pw_and (pt_cmpR op_lt (pv 2) (pe_callB call_len_str rfl T.len PySem.boot_len (pa_cons (pv 0) pa_nil)) (nomark _)) (pw_and1 (pt_cmpR op_in_sign (pe_ix ix_str (pv 0) (pv 2) (fun _ _ => rfl)) (C8.pe_gc rfl T.letters) rfl)))) (pss_one (ps_aug (i := 2) sc_name_from.nd rfl (Or.inl rfl) pe_int ip_add)))
      (pss_one (ps_ret (pe_slice sl_str (pv 0) (po_some (pv 1)) (po_some (pv 2))))))), ?_⟩
  refine ⟨_, rfl, ?_⟩
  refine ⟨fun m σ H' => ∃ e : Nat, σ = [some (.str (S L)), some (.int (a : Int)), some (.int (e : Int))] ∧ H' = H ∧ a ≤ e ∧ e ≤ a + twl low L a ∧ m = a + twl low L a - e,
    ⟨_, a, rfl, rfl, Nat.le_refl _, by omega, rfl⟩, ?_⟩
  rintro m σ H' ⟨e, rfl, rfl, h1, h2, rfl⟩
  have hlen : ((S L).length : Int) = (L.length : Int) := by rw [S_len]
  refine ⟨_, rfl, _, rfl, _, rfl, (by rw [S_len]; exact sz hl), _, _, rfl, rfl, _, rfl, ?_⟩
  have fin : e = a + twl low L a → ∀ (N : L2.St → Hp → Prop), tRet (tSl rSlS (tVar 0) (tPart (tVar 1)) (tPart (tVar 2))) { nx := fun x H' => Q V.non H', rt := Q } [some (.str (S L)), some (.int (a : Int)), some (.int (e : Int))] H' := fun he N => by
    refine ⟨_, rfl, _, rfl, _, rfl, _, rfl, _, rfl, _, rfl, (by rw [S_len]; exact sz hl), ?_⟩
    rw [cut_at L rfl rfl, he, scan_cut]
    exact q
  rcases scan_at low L h1 h2 with ⟨h3, h4, c, hc, hp⟩ | ⟨h3, h4⟩
  · rw [show decide ((e : Int) < ((S L).length : Int)) = true from decide_eq_true (by omega)]
    refine ⟨_, rfl, _, rfl, _, _, c, rfl, rfl, (by rw [S_len]; exact sz hl), at_code rfl hc, ?_⟩
    refine ⟨c, _, rfl, rfl, _, rfl, ?_⟩
    rw [letters_at, hp]
    refine ⟨fun σ' H2 => ∃ e' : Nat, σ' = [some (.str (S L)), some (.int (a : Int)), some (.int (e' : Int))] ∧ e' = e + 1 ∧ H2 = H', ?_, ?_⟩
    · rintro σ' H'' ⟨e', rfl, rfl, rfl⟩
      exact ⟨_, by omega, e + 1, rfl, rfl, by omega, by omega, rfl⟩
    · exact ⟨_, rfl, _, _, rfl, rfl, e + 1, rfl, rfl, rfl⟩
  · by_cases h5 : e < L.length
    · rw [show decide ((e : Int) < ((S L).length : Int)) = true from decide_eq_true (by omega)]
      obtain ⟨c, hc⟩ : ∃ c, L[e]? = some c := ⟨_, List.getElem?_eq_getElem h5⟩
      refine ⟨_, rfl, _, rfl, _, _, c, rfl, rfl, (by rw [S_len]; exact sz hl), at_code rfl hc, ?_⟩
      refine ⟨c, _, rfl, rfl, _, rfl, ?_⟩
      rw [letters_at, h4 c hc]
      exact fin h3 (fun _ _ => True)
    · rw [show decide ((e : Int) < ((S L).length : Int)) = false from decide_eq_false (by omega)]
      exact fin h3 (fun _ _ => True)
end
end RT
/-! paths -/
namespace RT
open PySem PySem.Spec PyProof.Rows L2 Evl
section
variable {P : Program} {w : World} {K : PySem.W.Frag} {mg : Str → Option Value} {base : Heap} {k : Nat}
theorem cut1 {v : V} {vs : List V} : cutV (v :: vs) (some 1) none = vs := by
  unfold cutV
  have e1 : HT.sIx (v :: vs).length 0 (some (1 : Int)) = 1 := by
    have := HT.sIx_nat (v :: vs).length 0 1
    rw [show ((1 : Nat) : Int) = 1 from rfl] at this
    rw [this]
    simp
  rw [e1, HT.sIx_none]
  simp
theorem not_whole {v : V} {vs : List V} : ¬ (HT.sIx (v :: vs).length 0 (some (1 : Int)) = 0 ∧ HT.sIx (v :: vs).length (v :: vs).length none = (v :: vs).length) := by
  have e1 : HT.sIx (v :: vs).length 0 (some (1 : Int)) = 1 := by
    have := HT.sIx_nat (v :: vs).length 0 1
    rw [show ((1 : Nat) : Int) = 1 from rfl] at this
    rw [this]
    simp
  rw [e1]
  simp
abbrev st_value_at : Stmt := (topS 9)
theorem sc_value_at : FnScope ["names", "values", "found", "name"] ["names", "values"] (defScope st_value_at) := ⟨rfl, rfl, rfl, by decide +kernel, rfl, by decide +kernel, by decide +kernel⟩
def spValueAt (K : PySem.W.Frag) : Sp := fun vs H Q _ => ∃ (u : V) (d : Addr) (ns : List Str) (ρ : Str → Option Th) (t : Th), vs = [u, .ref d] ∧ Dp K H u (.tuple (ns.map PyData.str)) ∧ EnvAt H d ρ ∧ look ρ ns = some t ∧
  ∀ v H', Ex H H' → ThAt H' v t → Q v H'
theorem ok_value_at (F : Df K mg "value_at" ["names", "values"] st_value_at) : Cl P w K mg base 1 "value_at" (spValueAt K) := by
  refine F.ok sc_value_at (fun vs H Q E h => ?_) (fun f cdv A outer s H vs Q E hr h => ?_)
  · obtain ⟨u, d, ns, ρ, t, rfl, _⟩ := h
    rfl
  obtain ⟨u, d, ns, ρ, t, rfl, hn, he, hl, q⟩ := h
  refine ⟨_, (pss_cons (ps_set (i := 2) sc_value_at.nd rfl (Or.inl rfl) (pe_dget (hu_of hr) (pv 1) (pe_ix ix_tup (pv 0) pe_int (fun _ _ => rfl)) (fun _ _ => rfl)))
      (pss_cons (ps_for PassesOwn.never rfl (pi_tup (pe_slice sl_tupA (pv 0) (po_some pe_int) po_none)) (pg_name (i := 3) sc_value_at.nd rfl (Or.inl rfl)) (pss_one (ps_set (i := 2) sc_value_at.nd rfl (Or.inl rfl) (pe_dget (hu_of hr) (pv 2) (pv 3) (fun _ _ => rfl)))))
      (pss_one (ps_ret (pv 2))))), ?_⟩
  cases ns with
  | nil => simp [look] at hl
  | cons n r =>
    obtain ⟨a, xs, rfl, hT, hA⟩ := Dp.tupInv hn
    have ex : xs = V.str n :: r.map V.str := DpAll.strsInv (xs := n :: r) hA
    subst ex
    obtain ⟨kvs, hrd, hv⟩ := he
    simp only [look] at hl
    cases q0 : ρ n with
    | none => rw [q0] at hl; simp at hl
    | some t0 =>
      rw [q0] at hl
      have hl : pathT r t0 = some t := by simpa using hl
      obtain ⟨v0, h1, h2⟩ := hv n t0 q0
      refine ⟨_, rfl, _, rfl, a, _, 0, .str n, rfl, rfl, hT, at_of (j := 0) rfl rfl, d, v0, rfl, .inl ⟨kvs, Sum.inr n, hrd, rfl, h1.symm⟩, ?_⟩
      refine ⟨_, rfl, _, rfl, a, _, rfl, hT, fun z => absurd z not_whole, fun _ p hp => ?_⟩
      rw [cut1]
      have ex2 : Ex H (upd H p (.tup (r.map V.str))) := Ex.new hp
      refine ⟨p, rfl, ⟨_, SqT.of upd_same⟩, for_tup (K := K) (a := p) (xs := r.map V.str) (fun i σ H' => H' = upd H p (.tup (r.map V.str)) ∧ ∃ v nm ti, σ = [some (.ref a), some (.ref d), some v, nm] ∧ ThAt H' v ti ∧ pathT (r.drop i) ti = some t)
        ⟨rfl, v0, none, t0, rfl, h2.im (Im.ex ex2), by simpa using hl⟩ (fun i σ H' _ ⟨e, _⟩ => by rw [e]; exact SqT.of upd_same) ?_ ?_⟩
      · rintro i x σ H' hx ⟨rfl, v, nm, ti, rfl, hti, hp2⟩
        obtain ⟨m, hm, rfl⟩ : ∃ m, r[i]? = some m ∧ x = V.str m := by
          rw [List.getElem?_map] at hx
          cases e : r[i]? with
          | none => rw [e] at hx; cases hx
          | some m => rw [e] at hx; exact ⟨m, rfl, (Option.some.inj hx).symm⟩
        have ed : r.drop i = m :: r.drop (i + 1) := by
          obtain ⟨h5, h6⟩ := List.getElem?_eq_some_iff.mp hm
          rw [← h6]
          exact List.drop_eq_getElem_cons h5
        rw [ed] at hp2
        cases ti with
        | rcd ns' ts' =>
          simp only [pathT] at hp2
          cases q1 : fieldOf ns' ts' m with
          | none => rw [q1] at hp2; simp at hp2
          | some t1 =>
            rw [q1] at hp2
            obtain ⟨b, o, kvs1, v1, rfl, e1, e2, e3⟩ := hti.field q1
            exact ⟨_, rfl, _, rfl, b, v1, rfl, .inl ⟨kvs1, Sum.inr m, .inr ⟨o, e1⟩, rfl, e2.symm⟩, rfl, v1, _, t1, rfl, e3, by simpa using hp2⟩
        | _ => simp [pathT] at hp2
      · rintro σ H' ⟨rfl, v, nm, ti, rfl, hti, hp2⟩
        have e : ti = t := by
          rw [List.length_map, List.drop_length] at hp2
          simpa [pathT] using hp2
        subst e
        exact ⟨_, rfl, q v _ ex2 hti⟩
end
end RT
/-! reading an expression: texts, numbers -/
namespace RT
open PySem PySem.Spec PyProof.Rows L2 Evl
section
variable {P : Program} {w : World} {K : PySem.W.Frag} {mg : Str → Option Value} {base : Heap} {k : Nat}
/-- what a reader hands back: the tree and the place behind it -/
def Found (K : PySem.W.Frag) (H : Hp) (Q : VK) (t : Tree) (e : Nat) : Prop := ∀ p H', Ex H H' → Dp K H' (.ref p) (.tuple [td t, .int (e : Int)]) → Q (.ref p) H'
theorem found_new {K : PySem.W.Frag} {H : Hp} {Q : VK} {t : Tree} {e : Nat} {p p2 : Addr} {xs : List V} {ds : List PyData} {i : Int} (q : Found K H Q t e) (hp : H p = none) (hp2 : upd H p (.tup xs) p2 = none) (h : DpAll K H xs ds)
    (ht : td t = .tuple ds) (hi : i = (e : Int)) : Q (.ref p2) (upd (upd H p (.tup xs)) p2 (.tup [.ref p, .int i])) := by
  subst hi
  have hn := noL_td t
  rw [ht] at hn
  refine q p2 _ ((Ex.new hp).trans (Ex.new hp2)) ?_
  rw [ht]
  exact Dp.new hp2 (.cons (Dp.new hp h (by simpa [noL] using hn)) (.cons (.int _) .nil)) (by simp only [noLs, hn]; rfl)
abbrev st_read_quoted : Stmt := (topS 25)
theorem sc_read_quoted : FnScope ["text", "at", "end"] ["text", "at"] (defScope st_read_quoted) := ⟨rfl, rfl, rfl, by decide +kernel, rfl, by decide +kernel, by decide +kernel⟩
def spQuoted (K : PySem.W.Frag) : Sp := fun vs H Q _ => ∃ (L : List Nat) (a : Nat) (x : Str) (R : List Nat), vs = [.str (S L), .int (a : Int)] ∧ L.length ≤ 100000 ∧ L.drop a = 34 :: (x.cps.toList ++ 34 :: R) ∧ Quot x ∧ Found K H Q (.text x) (a + x.length + 2)
def pq (c : Nat) : Bool := !decide (c ∈ ("\"{}\n" : Str).cps.toList)
theorem pq_eq (c : Nat) : pq c = (decide (c ≠ 34) && decide (c ≠ 123) && decide (c ≠ 125) && decide (c ≠ 10)) := by
  have e : ("\"{}\n" : Str).cps.toList = [34, 123, 125, 10] := by decide +kernel
  unfold pq
  rw [e]
  simp only [List.mem_cons, List.not_mem_nil, or_false]
  by_cases h1 : c = 34 <;> by_cases h2 : c = 123 <;> by_cases h3 : c = 125 <;> by_cases h4 : c = 10 <;> simp [h1, h2, h3, h4]
theorem ok_read_quoted (T : Bi mg) (F : Df K mg "read_quoted" ["text", "at"] st_read_quoted) : Cl P w K mg base 1 "read_quoted" (spQuoted K) := by
  refine F.ok sc_read_quoted (fun vs H Q E h => ?_) (fun f cdv A outer s H vs Q E hr h => ?_)
  · obtain ⟨L, a, x, R, rfl, _⟩ := h
    rfl
  obtain ⟨L, a, x, R, rfl, hl, hL, hx, q⟩ := h
  refine ⟨_, (pss_cons (ps_set (i := 2) sc_read_quoted.nd rfl (Or.inl rfl) (pe_op op_add (pv 1) pe_int))
      (pss_cons (ps_while PassesOwn.never (PW.pt (pw_and (pt_cmpR op_lt (pv 2) (pe_callB call_len_str rfl T.len PySem.boot_len (pa_cons (pv 0) pa_nil)) (nomark _)) (pw_and1 (pt_cmpR op_notIn_sign (pe_ix ix_str (pv 0) (pv 2) (fun _ _ => rfl)) pe_str rfl)))) (pss_one (ps_aug (i := 2) sc_read_quoted.nd rfl (Or.inl rfl) pe_int ip_add)))
      (pss_cons (ps_if (PW.pt (pw_or (pt_cmpR op_ne (pe_slice sl_str (pv 0) (po_some (pv 2)) (po_some (pe_op op_add (pv 2) pe_int))) pe_str (nomark _)) (pw_or1 (pt_cmpR op_gt (pe_op op_sub (pe_op op_sub (pv 2) (pv 1)) pe_int) (C8.pe_gc rfl T.mchr) (nomark _))))) (pss_one (ps_ret pe_non)) pss_nil)
      (pss_one (ps_ret (pe_tup (pa_cons (pe_tup (pa_cons pe_str (pa_cons (pe_slice sl_str (pv 0) (po_some (pe_op op_add (pv 1) pe_int)) (po_some (pv 2))) pa_nil))) (pa_cons (pe_op op_add (pv 2) pe_int) pa_nil)))))))), ?_⟩
  have hL1 : L.drop (a + 1) = x.cps.toList ++ 34 :: R := by
    have := drop_more (X := [34]) (R := x.cps.toList ++ 34 :: R) hL
    simpa using this
  have ht : twl pq L (a + 1) = x.length := by
    refine twl_app hL1 (fun c hc => ?_) (fun c hc => ?_)
    · obtain ⟨h1, h2, h3, h4⟩ := hx.2 c hc
      rw [pq_eq]
      simp [h1, h2, h3, h4]
    · simp at hc
      subst hc
      decide +kernel
  have hL2 : L.drop (a + 1 + x.length) = 34 :: R := drop_more (X := x.cps.toList) hL1
  refine ⟨_, rfl, _, _, rfl, rfl, ?_⟩
  refine scan_loop (p := pq) (L := L) (a := a + 1) hl rfl (by decide) rfl (fun e c σ' Q' hc h0 h2 q' => ?_) ?_
  · exact ⟨_, h0, _, h2, _, _, c, rfl, rfl, (by rw [S_len]; exact sz hl), at_code rfl hc, c, _, rfl, rfl, _, rfl, q'⟩
  rw [ht]
  refine ⟨_, rfl, _, rfl, _, rfl, _, rfl, _, _, rfl, rfl, _, rfl, _, rfl, (by rw [S_len]; exact sz hl), rfl, _, rfl, ?_⟩
  have e1 : cutS (S L) (some ((a + 1 + x.length : Nat) : Int)) (some (((a + 1 + x.length : Nat) : Int) + 1)) = ("\"" : Str) := by
    rw [cut_at L rfl (b := a + 1 + x.length + 1) (by omega), hL2, Nat.add_sub_cancel_left]
    show S [34] = _
    decide +kernel
  have e2 : cutS (S L) (some ((a : Int) + 1)) (some ((a + 1 + x.length : Nat) : Int)) = x := by
    rw [cut_at L (a := a + 1) (by omega) rfl, hL1, Nat.add_sub_cancel_left]
    rw [List.take_left' (show x.cps.toList.length = x.length from rfl)]
  rw [e1]
  refine iteNS rfl ?_
  refine ⟨_, rfl, _, rfl, _, _, rfl, rfl, _, _, rfl, rfl, _, _, rfl, rfl, _, rfl, ?_⟩
  rw [show decide ((60 : Int) < ((a + 1 + x.length : Nat) : Int) - (a : Int) - 1) = false from decide_eq_false (by have := hx.1; omega)]
  refine iteF ?_
  refine ⟨_, rfl, _, rfl, _, _, rfl, rfl, _, rfl, _, rfl, _, rfl, _, rfl, (by rw [S_len]; exact sz hl), ?_⟩
  rw [e2]
  refine ⟨by show 2 ≤ sizeLine; decide, fun p hp => ⟨_, rfl, _, _, rfl, rfl, by show 2 ≤ sizeLine; decide, fun p2 hp2 => ?_⟩⟩
  exact found_new q hp hp2 (.cons (.str _) (.cons (.str _) .nil)) rfl (by omega)
/-! ### numbers -/
def nCodes (n : Int) : List Nat := (Str.ofString (toString n)).cps.toList
structure NumOk (n : Int) (sg ds : List Nat) : Prop where
  e : nCodes n = sg ++ ds
  sgn : sg = [] ∨ sg = [45]
  ne : ds ≠ []
  le : ds.length ≤ 15
  dg : ∀ c ∈ ds, dig c = true
  ze : ds.head? = some 48 → ds.length = 1 ∧ sg = []
  tx : PySem.intText? (S (sg ++ ds)) = some n
theorem numOk {n : Int} (h : n = 0 ∨ n = 7 ∨ n = -12 ∨ n = 100000000000000) : ∃ sg ds, NumOk n sg ds := by
  rcases h with rfl | rfl | rfl | rfl
  · exact ⟨[], [48], by decide +kernel, .inl rfl, by decide, by decide, by decide, by decide, by decide +kernel⟩
  · exact ⟨[], [55], by decide +kernel, .inl rfl, by decide, by decide, by decide, by decide, by decide +kernel⟩
  · exact ⟨[45], [49, 50], by decide +kernel, .inr rfl, by decide, by decide, by decide, by decide, by decide +kernel⟩
  · exact ⟨[], [49, 48, 48, 48, 48, 48, 48, 48, 48, 48, 48, 48, 48, 48, 48], by decide +kernel, .inl rfl, by decide, by decide, by decide, by decide, by decide +kernel⟩
theorem one_eq {c d : Nat} {y : Str} (hy : y = S [d]) : decide (V.str ⟨#[c]⟩ = V.str y) = decide (c = d) := by
  subst hy
  by_cases h : c = d
  · subst h
    rw [decide_eq_true (show c = c from rfl)]
    exact decide_eq_true rfl
  · rw [decide_eq_false h]
    refine decide_eq_false fun e => h ?_
    have e2 : S [c] = S [d] := V.str.inj e
    have e3 := SX.S_inj e2
    simpa using e3
abbrev st_read_digits : Stmt := (topS 26)
theorem sc_read_digits : FnScope ["text", "at", "start", "end", "many"] ["text", "at"] (defScope st_read_digits) := ⟨rfl, rfl, rfl, by decide +kernel, rfl, by decide +kernel, by decide +kernel⟩
def spDigits (K : PySem.W.Frag) : Sp := fun vs H Q _ => ∃ (L : List Nat) (a : Nat) (n : Int) (R : List Nat), vs = [.str (S L), .int (a : Int)] ∧ L.length ≤ 100000 ∧ L.drop a = nCodes n ++ R ∧ (∃ sg ds, NumOk n sg ds) ∧ (∀ c, R.head? = some c → dig c = false) ∧
  Found K H Q (.number n) (a + (nCodes n).length)
theorem ok_read_digits (T : Bi mg) (F : Df K mg "read_digits" ["text", "at"] st_read_digits) : Cl P w K mg base 1 "read_digits" (spDigits K) := by
  refine F.ok sc_read_digits (fun vs H Q E h => ?_) (fun f cdv A outer s H vs Q E hr h => ?_)
  · obtain ⟨L, a, n, R, rfl, _⟩ := h
    rfl
  obtain ⟨L, a, n, R, rfl, hl, hL, ⟨sg, ds, N⟩, hR, q⟩ := h
  refine ⟨_, (pss_cons (ps_set (i := 2) sc_read_digits.nd rfl (Or.inl rfl) (pe_ifExp (pt_cmpR op_eq (pe_ix ix_str (pv 0) (pv 1) (fun _ _ => rfl)) pe_str (nomark _)) (pe_op op_add (pv 1) pe_int) (pv 1)))
      (pss_cons (ps_set (i := 3) sc_read_digits.nd rfl (Or.inl rfl) (pv 2))
      (pss_cons (ps_while PassesOwn.never (PW.pt (pw_and (pt_cmpR op_lt (pv 3) (pe_callB call_len_str rfl T.len PySem.boot_len (pa_cons (pv 0) pa_nil)) (nomark _)) (pw_and1 (pt_cmpR op_in_sign (pe_ix ix_str (pv 0) (pv 3) (fun _ _ => rfl)) (C8.pe_gc rfl T.digits) rfl)))) (pss_one (ps_aug (i := 3) sc_read_digits.nd rfl (Or.inl rfl) pe_int ip_add)))
      (pss_cons (ps_set (i := 4) sc_read_digits.nd rfl (Or.inl rfl) (pe_op op_sub (pv 3) (pv 2)))
      (pss_cons (ps_if (PW.pt (pw_or (pt_cmpR op_eq (pv 4) pe_int (nomark _)) (pw_or (pt_cmpR op_gt (pv 4) (C8.pe_gc rfl T.mdig) (nomark _)) (pw_or1 (PW.pt (pw_and (pt_cmpR op_eq (pe_ix ix_str (pv 0) (pv 2) (fun _ _ => rfl)) pe_str (nomark _)) (pw_and1 (PW.pt (pw_or (pt_cmpR op_gt (pv 4) pe_int (nomark _)) (pw_or1 (pt_cmpR op_gt (pv 2) (pv 1) (nomark _)))))))))))) (pss_one (ps_ret pe_non)) pss_nil)
      (pss_one (ps_ret (pe_tup (pa_cons (pe_tup (pa_cons pe_str (pa_cons (pe_callTy call_int_str rfl T.int (by decide +kernel) (pa_cons (pe_slice sl_str (pv 0) (po_some (pv 1)) (po_some (pv 3))) pa_nil)) pa_nil))) (pa_cons (pv 3) pa_nil)))))))))), ?_⟩
  have hz : (S L).length ≤ sizeLine := by rw [S_len]; exact sz hl
  rw [N.e] at hL q
  obtain ⟨d0, dr, hd⟩ : ∃ d0 dr, ds = d0 :: dr := by
    cases e : ds with
    | nil => exact absurd e N.ne
    | cons x y => exact ⟨x, y, rfl⟩
  have hdr : L.drop (a + sg.length) = ds ++ R := by
    rw [List.append_assoc] at hL
    exact drop_more hL
  have ht : twl dig L (a + sg.length) = ds.length := twl_app hdr N.dg hR
  have hc : L[a + sg.length]? = some d0 := by
    rw [hd] at hdr
    exact get_drop hdr
  have hd0 : dig d0 = true := N.dg d0 (by rw [hd]; simp)
  have hcut : cutS (S L) (some (a : Int)) (some ((a + sg.length + ds.length : Nat) : Int)) = S (sg ++ ds) := by
    rw [cut_at L rfl rfl, hL]
    congr 1
    rw [show a + sg.length + ds.length - a = (sg ++ ds).length by rw [List.length_append]; omega]
    exact List.take_left' rfl
  have hdl : 0 < ds.length := by rw [hd]; simp
  have hle := N.le
  rcases N.sgn with e | e
  · subst e
    refine ⟨_, rfl, _, rfl, _, _, d0, rfl, rfl, hz, at_code rfl (by simpa using hc), rfl, _, rfl, ?_⟩
    rw [one_eq (d := 45) (by decide +kernel), decide_eq_false (by rintro rfl; simp [dig] at hd0)]
    refine iteF ⟨_, rfl, ?_⟩
    refine ⟨_, rfl, ?_⟩
    refine scan_loop (p := dig) (L := L) (a := a) hl rfl (by decide) rfl (fun e c σ' Q' hc h0 h2 q' => ?_) ?_
    · exact ⟨_, h0, _, h2, _, _, c, rfl, rfl, hz, at_code rfl hc, c, _, rfl, rfl, _, rfl, by rw [digits_at]; exact q'⟩
    have hcut2 : cutS (S L) (some (a : Int)) (some ((a + ds.length : Nat) : Int)) = S ([] ++ ds) := by simpa using hcut
    rw [show twl dig L a = ds.length from (by simpa using ht)]
    refine ⟨_, rfl, _, rfl, _, _, rfl, rfl, ?_⟩
    refine ⟨_, rfl, rfl, _, rfl, ?_⟩
    rw [show decide (V.int ((((a + ds.length : Nat) : Int)) - (a : Int)) = V.int 0) = false from decide_eq_false (by intro z; have := V.int.inj z; omega)]
    refine ⟨_, rfl, _, _, rfl, rfl, _, rfl, ?_⟩
    rw [show decide ((15 : Int) < ((a + ds.length : Nat) : Int) - (a : Int)) = false from decide_eq_false (by omega)]
    refine ⟨_, rfl, _, rfl, _, _, d0, rfl, rfl, hz, at_code rfl (by simpa using hc), rfl, _, rfl, ?_⟩
    rw [one_eq (d := 48) (by decide +kernel)]
    have fin : tSeq (tRet (tTup (tCons (tTup (tCons (tC (V.str "number")) (tCons (tCB (fun xs H Q => ∃ a n, xs = [V.str a] ∧ PySem.intText? a = some n ∧ a.length ≤ 640 ∧ Q (V.int n) H) (tCons (tSl rSlS (tVar 0) (tPart (tVar 1)) (tPart (tVar 3))) tNil)) tNil))) (tCons (tVar 3) tNil)))) tNext
        { nx := fun x H' => Q V.non H', rt := Q } [some (V.str (S L)), some (V.int a), some (V.int (a : Int)), some (V.int ((a + ds.length : Nat) : Int)), some (V.int (((a + ds.length : Nat) : Int) - (a : Int)))] H := by
      refine ⟨_, rfl, _, rfl, _, rfl, _, rfl, _, rfl, _, rfl, hz, _, n, rfl, ?_, ?_, by show 2 ≤ sizeLine; decide, fun p hp => ⟨_, rfl, by show 2 ≤ sizeLine; decide, fun p2 hp2 => ?_⟩⟩
      · rw [hcut2]
        exact N.tx
      · rw [hcut2, S_len, List.length_append]
        simp
        omega
      · exact found_new q hp hp2 (.cons (.str _) (.cons (.int _) .nil)) rfl (by simp <;> omega)
    by_cases hz0 : d0 = 48
    · obtain ⟨h1, h2⟩ := N.ze (by rw [hd, hz0]; rfl)
      rw [decide_eq_true hz0]
      refine ⟨_, rfl, _, _, rfl, rfl, _, rfl, ?_⟩
      rw [show decide ((1 : Int) < ((a + ds.length : Nat) : Int) - (a : Int)) = false from decide_eq_false (by omega)]
      refine ⟨_, rfl, _, rfl, _, _, rfl, rfl, _, rfl, ?_⟩
      rw [show decide ((a : Int) < (a : Int)) = false from decide_eq_false (by omega)]
      exact fin
    · rw [decide_eq_false hz0]
      exact fin
  · subst e
    have h45 : L[a]? = some 45 := by
      rw [show ([45] ++ ds ++ R : List Nat) = 45 :: (ds ++ R) by simp] at hL
      exact get_drop hL
    refine ⟨_, rfl, _, rfl, _, _, 45, rfl, rfl, hz, at_code rfl h45, rfl, _, rfl, ?_⟩
    rw [one_eq (d := 45) (by decide +kernel), decide_eq_true (show (45 : Nat) = 45 from rfl)]
    refine iteT ⟨_, rfl, _, _, rfl, rfl, ?_⟩
    refine ⟨_, rfl, ?_⟩
    refine scan_loop (p := dig) (L := L) (a := a + 1) hl rfl (by decide) rfl (fun e c σ' Q' hc h0 h2 q' => ?_) ?_
    · exact ⟨_, h0, _, h2, _, _, c, rfl, rfl, hz, at_code rfl hc, c, _, rfl, rfl, _, rfl, by rw [digits_at]; exact q'⟩
    have hcut2 : cutS (S L) (some (a : Int)) (some ((a + 1 + ds.length : Nat) : Int)) = S ([45] ++ ds) := by simpa using hcut
    rw [show twl dig L (a + 1) = ds.length from (by simpa using ht)]
    refine ⟨_, rfl, _, rfl, _, _, rfl, rfl, ?_⟩
    refine ⟨_, rfl, rfl, _, rfl, ?_⟩
    rw [show decide (V.int (((((a + 1) + ds.length : Nat) : Int)) - ((a : Int) + 1)) = V.int 0) = false from decide_eq_false (by intro z; have := V.int.inj z; omega)]
    refine ⟨_, rfl, _, _, rfl, rfl, _, rfl, ?_⟩
    rw [show decide ((15 : Int) < (((a + 1) + ds.length : Nat) : Int) - ((a : Int) + 1)) = false from decide_eq_false (by omega)]
    refine ⟨_, rfl, _, rfl, _, _, d0, rfl, rfl, hz, at_code (a := a + 1) rfl (by simpa using hc), rfl, _, rfl, ?_⟩
    rw [one_eq (d := 48) (by decide +kernel)]
    have fin : tSeq (tRet (tTup (tCons (tTup (tCons (tC (V.str "number")) (tCons (tCB (fun xs H Q => ∃ a n, xs = [V.str a] ∧ PySem.intText? a = some n ∧ a.length ≤ 640 ∧ Q (V.int n) H) (tCons (tSl rSlS (tVar 0) (tPart (tVar 1)) (tPart (tVar 3))) tNil)) tNil))) (tCons (tVar 3) tNil)))) tNext
        { nx := fun x H' => Q V.non H', rt := Q } [some (V.str (S L)), some (V.int a), some (V.int ((a : Int) + 1)), some (V.int (((a + 1) + ds.length : Nat) : Int)), some (V.int ((((a + 1) + ds.length : Nat) : Int) - ((a : Int) + 1)))] H := by
      refine ⟨_, rfl, _, rfl, _, rfl, _, rfl, _, rfl, _, rfl, hz, _, n, rfl, ?_, ?_, by show 2 ≤ sizeLine; decide, fun p hp => ⟨_, rfl, by show 2 ≤ sizeLine; decide, fun p2 hp2 => ?_⟩⟩
      · rw [hcut2]
        exact N.tx
      · rw [hcut2, S_len, List.length_append]
        simp
        omega
      · exact found_new q hp hp2 (.cons (.str _) (.cons (.int _) .nil)) rfl (by simp <;> omega)
    by_cases hz0 : d0 = 48
    · obtain ⟨h1, h2⟩ := N.ze (by rw [hd, hz0]; rfl)
      exact absurd h2 (by simp)
    · rw [decide_eq_false hz0]
      exact fin
end
end RT
/-! reading an expression: variables -/
namespace RT
open PySem PySem.Spec PyProof.Rows L2 Evl
section
variable {P : Program} {w : World} {K : PySem.W.Frag} {mg : Str → Option Value} {base : Heap} {k : Nat}
abbrev tl (x : Str) : List Nat := x.cps.toList
theorem S_of (x : Str) : S (tl x) = x := SX.S_tl x
def NmOk (x : Str) : Prop := isNm (tl x) = true
def tailD (r : List Str) : List Nat := (r.map fun x => 46 :: tl x).flatten
def getCodes : List Str → List Nat
  | [] => []
  | n :: r => tl n ++ tailD r
/-- what may stand behind an expression -/
def Behind (R : List Nat) : Prop := ∀ c, R.head? = some c → c = 44 ∨ c = 41
theorem NmOk.low {x : Str} (h : NmOk x) : ∀ c ∈ tl x, low c = true := by
  unfold NmOk isNm at h
  simp only [Bool.and_eq_true, List.all_eq_true] at h
  exact h.2
theorem NmOk.len {x : Str} (h : NmOk x) : 0 < (tl x).length ∧ (tl x).length < 13 := by
  unfold NmOk isNm at h
  simp only [Bool.and_eq_true, decide_eq_true_eq] at h
  exact h.1
theorem tail_head {r : List Str} {R : List Nat} (hR : Behind R) : ∀ c, (tailD r ++ R).head? = some c → low c = false := by
  intro c hc
  cases r with
  | nil =>
    rcases hR c (by simpa [tailD] using hc) with rfl | rfl <;> rfl
  | cons x r =>
    simp [tailD] at hc
    subst hc
    decide
theorem nm_from {L : List Nat} {a : Nat} {x : Str} {r : List Str} {R : List Nat} (h : L.drop a = tl x ++ (tailD r ++ R)) (hx : NmOk x) (hR : Behind R) : S ((L.drop a).takeWhile low) = x := by
  rw [h, tw_app hx.low (tail_head hR)]
theorem slice1 (L : List Nat) {b : Nat} {i j : Int} (hi : i = (b : Int)) (hj : j = (b : Int) + 1) : cutS (S L) (some i) (some j) = S ((L.drop b).take 1) := by
  rw [cut_at L hi (b := b + 1) (by omega), Nat.add_sub_cancel_left]
theorem take1_eq {R : List Nat} {c : Nat} {y : Str} (hy : y = S [c]) : decide (V.str (S (R.take 1)) = V.str y) = decide (R.head? = some c) := by
  subst hy
  cases R with
  | nil =>
    rw [decide_eq_false (show ¬ ([] : List Nat).head? = some c by simp)]
    refine decide_eq_false fun e => ?_
    have e2 : S [] = S [c] := V.str.inj e
    simpa using SX.S_inj e2
  | cons d R =>
    have e := one_eq (c := d) (d := c) (y := S [c]) rfl
    have e2 : decide ((d :: R).head? = some c) = decide (d = c) := by simp
    rw [e2, ← e]
    rfl
theorem getCodes_snoc (n : Str) (r : List Str) : (getCodes (n :: r)).length = (tl n).length + (tailD r).length := by simp [getCodes]
theorem tailD_cons (x : Str) (r : List Str) : tailD (x :: r) = 46 :: (tl x ++ tailD r) := by simp [tailD]
abbrev st_read_variable : Stmt := (topS 27)
theorem sc_read_variable : FnScope ["text", "at", "names"] ["text", "at"] (defScope st_read_variable) := ⟨rfl, rfl, rfl, by decide +kernel, rfl, by decide +kernel, by decide +kernel⟩
def spVariable (K : PySem.W.Frag) : Sp := fun vs H Q _ => ∃ (L : List Nat) (a : Nat) (n : Str) (r : List Str) (R : List Nat), vs = [.str (S L), .int (a : Int)] ∧ L.length ≤ 100000 ∧ L.drop a = tl n ++ (tailD r ++ R) ∧ NmOk n ∧ (∀ x ∈ r, NmOk x) ∧ r.length ≤ 100 ∧
  n ∉ (["true", "false", "self"] : List Str) ∧ Behind R ∧ Found K H Q (.get (n :: r)) (a + (getCodes (n :: r)).length)
theorem ok_read_variable (T : Bi mg) (TK : Kx K mg) (F : Df K mg "read_variable" ["text", "at"] st_read_variable) (cname_from : Cl P w K mg base 1 "name_from" spNameFrom) (cis_name : Cl P w K mg base 1 "is_name" spIsName) :
    Cl P w K mg base 2 "read_variable" (spVariable K) := by
  obtain ⟨aNOT_VARIABLES, hNOT_VARIABLES, hNT⟩ := TK.notv
  refine F.ok sc_read_variable (fun vs H Q E h => ?_) (fun f cdv A outer s H vs Q E hr h => ?_)
  · obtain ⟨L, a, n, r, R, rfl, _⟩ := h
    rfl
  obtain ⟨L, a, n, r, R, rfl, hl, hL, hn, hr1, hrl, hv, hR, q⟩ := h
  refine ⟨_, (pss_cons (ps_set (i := 2) sc_read_variable.nd rfl (Or.inl rfl) (pe_lst (pa_cons (pc cname_from hr (by omega) rfl (pa_cons (pv 0) (pa_cons (pv 1) pa_nil))) pa_nil)))
      (pss_cons (ps_aug (i := 1) sc_read_variable.nd rfl (Or.inl rfl) (pe_callB call_len_str rfl T.len PySem.boot_len (pa_cons (pe_ix ix_list (pv 2) pe_int (fun _ _ => rfl)) pa_nil)) ip_add)
      (pss_cons (ps_if (PW.pt (pw_or (pt_not (pt_val (pc cis_name hr (by omega) rfl (pa_cons (pe_ix ix_list (pv 2) pe_int (fun _ _ => rfl)) pa_nil)))) (pw_or1 (pt_cmpR op_in_seq (pe_ix ix_list (pv 2) pe_int (fun _ _ => rfl)) (pe_glob (by rfl) hNOT_VARIABLES (show RelV (.ref aNOT_VARIABLES) _ from rfl)) rfl)))) (pss_one (ps_ret pe_non)) pss_nil)
      (pss_cons (ps_while PassesOwn.never (pt_cmpR op_eq (pe_slice sl_str (pv 0) (po_some (pv 1)) (po_some (pe_op op_add (pv 1) pe_int))) pe_str (nomark _)) (pss_cons (ps_expr (pe_bm PySem.F.plainAttrs_list PySem.F.slot_list_append PySem.F.type_list_append mt_append (pv 2) (pa_cons (pc cname_from hr (by omega) rfl (pa_cons (pv 0) (pa_cons (pe_op op_add (pv 1) pe_int) pa_nil))) pa_nil)))
      (pss_cons (ps_aug (i := 1) sc_read_variable.nd rfl (Or.inl rfl) (pe_op op_add pe_int (pe_callB call_len_str rfl T.len PySem.boot_len (pa_cons (pe_ix ix_list (pv 2) (pe_un un_neg pe_int) (fun _ _ => rfl)) pa_nil))) ip_add)
      (pss_one (ps_if (pt_not (pt_val (pc cis_name hr (by omega) rfl (pa_cons (pe_ix ix_list (pv 2) (pe_un un_neg pe_int) (fun _ _ => rfl)) pa_nil)))) (pss_one (ps_ret pe_non)) pss_nil)))))
      (pss_one (ps_ret (pe_tup (pa_cons (pe_tup (pa_cons pe_str (pa_cons (pe_callTy call_tuple_of rfl T.tup (by decide +kernel) (pa_cons (pv 2) pa_nil)) pa_nil))) (pa_cons (pv 1) pa_nil))))))))), ?_⟩
  have hz : (S L).length ≤ sizeLine := by rw [S_len]; exact sz hl
  refine ⟨_, rfl, _, rfl, L, a, rfl, hl, by show 1 ≤ sizeLine; decide, fun p hp => ?_⟩
  rw [nm_from hL hn hR]
  refine ⟨_, rfl, _, rfl, p, _, 0, .str n, rfl, rfl, SqL.of upd_same, at_of (j := 0) rfl rfl, n, rfl, ?_, ?_⟩
  · have := hn.len
    show (tl n).length ≤ sizeLine
    exact sz (by omega)
  refine ⟨_, _, rfl, rfl, ?_⟩
  refine ⟨_, rfl, p, _, 0, .str n, rfl, rfl, SqL.of upd_same, at_of (j := 0) rfl rfl, tl n, (by rw [S_of]; rfl), (by have := hn.len; omega), fun H1 e1 => ⟨_, rfl, ?_⟩⟩
  rw [show isNm (tl n) = true from hn]
  refine ⟨_, rfl, p, _, 0, .str n, rfl, rfl, SqL.of (e1 p _ upd_same), at_of (j := 0) rfl rfl, aNOT_VARIABLES, _, rfl, .inr (hNT _), rfl, rfl, _, rfl, ?_⟩
  have hin : inV (.str n) [V.str "true", V.str "false", V.str "self"] = false := by
    have := inV_strs n ["true", "false", "self"]
    rw [decide_eq_false hv] at this
    exact this
  rw [show (if false = true then !inV (.str n) [V.str "true", V.str "false", V.str "self"] else inV (.str n) [V.str "true", V.str "false", V.str "self"]) = false by rw [if_neg Bool.false_ne_true, hin]]
  refine iteF ?_
  have ex1 : Ex H H1 := (Ex.new hp).trans e1
  have hp1 : H1 p = some (.lst [.str n]) := e1 p _ upd_same
  refine ⟨fun m σ' H' => ∃ (dn qd : List Str) (b : Nat), σ' = [some (.str (S L)), some (.int (b : Int)), some (.ref p)] ∧ r = dn ++ qd ∧ L.drop b = tailD qd ++ R ∧ b + (tailD qd).length = a + (getCodes (n :: r)).length ∧
      Ex H H' ∧ H' p = some (.lst ((n :: dn).map V.str)) ∧ m = qd.length, ⟨_, [], r, a + (tl n).length, ?_, rfl, ?_, ?_, ex1, hp1, rfl⟩, ?_⟩
  · rfl
  · exact drop_more hL
  · rw [getCodes_snoc]
    omega
  rintro m σ' H' ⟨dn, qd, b, rfl, hdn, hLb, hb, ex, hpl, rfl⟩
  refine ⟨_, rfl, _, rfl, _, rfl, _, rfl, _, _, rfl, rfl, _, rfl, _, rfl, hz, rfl, _, rfl, ?_⟩
  rw [slice1 L rfl rfl, take1_eq (c := 46) (by decide +kernel), hLb]
  cases qd with
  | nil =>
    have hh : (tailD [] ++ R).head? ≠ some 46 := by
      intro z
      rcases hR 46 (by simpa [tailD] using z) with h | h <;> simp at h
    rw [decide_eq_false hh]
    refine iteF ?_
    have e2 : dn = r := by simpa using hdn.symm
    subst e2
    refine ⟨_, rfl, p, _, rfl, .inl ⟨SqL.of hpl, fun l hl => ⟨by show 2 ≤ sizeLine; decide, fun p1 hp1 => ⟨_, rfl, by show 2 ≤ sizeLine; decide, fun p2 hp2 => ?_⟩⟩⟩⟩
    have d0 : Dp K (upd H' l (.tup ((n :: dn).map V.str))) (.ref l) (.tuple ((n :: dn).map PyData.str)) := Dp.new hl (DpAll.strs _) (noL_strs _)
    have e3 : b = a + (getCodes (n :: dn)).length := by simpa [tailD] using hb
    subst e3
    refine q p2 _ (ex.trans ((Ex.new hl).trans ((Ex.new hp1).trans (Ex.new hp2)))) ?_
    refine Dp.new hp2 (.cons (Dp.new hp1 (.cons (.str _) (.cons d0 .nil)) (by simp only [noLs, noL, noL_strs]; rfl)) (.cons (.int _) .nil)) (by simp only [noLs, noL, td, noL_strs]; rfl)
  | cons x qd =>
    have hx : NmOk x := hr1 x (by rw [hdn]; simp)
    have hd1 : L.drop (b + 1) = tl x ++ (tailD qd ++ R) := by
      have := drop_more (X := [46]) (R := tl x ++ (tailD qd ++ R)) (by rw [hLb, tailD_cons]; simp)
      simpa using this
    have hh : (tailD (x :: qd) ++ R).head? = some 46 := by simp [tailD]
    rw [decide_eq_true hh]
    have hlen : dn.length ≤ r.length := by rw [hdn]; simp
    refine ⟨fun σ2 H2 => σ2 = [some (.str (S L)), some (.int ((b + 1 + (tl x).length : Nat) : Int)), some (.ref p)] ∧ Ex H H2 ∧ H2 p = some (.lst ((n :: (dn ++ [x])).map V.str)), ?_, ?_⟩
    · rintro σ2 H2 ⟨rfl, ex2, hp2⟩
      refine ⟨qd.length, by simp, dn ++ [x], qd, _, rfl, by simp [hdn], ?_, ?_, ex2, hp2, rfl⟩
      · exact drop_more hd1
      · rw [tailD_cons] at hb
        simp only [List.length_cons, List.length_append] at hb
        omega
    refine ⟨_, rfl, .inl ⟨rfl, _, SqL.of hpl⟩, _, rfl, _, rfl, _, _, rfl, rfl, L, b + 1, rfl, hl, p, _, _, rfl, rfl, hpl, ?_, ?_⟩
    · simp
      exact szl (by omega)
    rw [nm_from hd1 hx hR]
    have hl2 : ((n :: dn).map V.str ++ [.str x] : List V) = (n :: (dn ++ [x])).map V.str := by simp
    rw [hl2]
    have ex2 : Ex H (upd H' p (.lst ((n :: (dn ++ [x])).map V.str))) := ex.mut hp
    have hat : atI ((n :: (dn ++ [x])).map V.str) (-1) = some (.str x) := by
      rw [← hl2]
      exact atI_last _ _
    refine ⟨_, rfl, _, rfl, _, rfl, p, _, _, _, rfl, rfl, SqL.of upd_same, hat, x, rfl, ?_, _, _, rfl, rfl, _, _, rfl, rfl, ?_⟩
    · have := hx.len
      show (tl x).length ≤ sizeLine
      exact sz (by omega)
    refine ⟨_, rfl, _, rfl, p, _, _, _, rfl, rfl, SqL.of upd_same, hat, tl x, (by rw [S_of]; rfl), (by have := hx.len; omega), fun H3 e3 => ⟨_, rfl, ?_⟩⟩
    rw [show isNm (tl x) = true from hx]
    refine iteF ?_
    refine ⟨?_, ex2.trans e3, e3 p _ upd_same⟩
    show [some (V.str (S L)), some (V.int ((b : Int) + (1 + ((x.length : Nat) : Int)))), some (V.ref p)] = _
    have hxl : (tl x).length = x.length := rfl
    rw [hxl]
    refine congrArg (fun z => [some (V.str (S L)), some (V.int z), some (V.ref p)]) ?_
    omega
end
end RT
/-! a for over a dict of the module's own, by its keys (texts) -/
namespace RT
open PySem PySem.Spec PyProof.Rows L2 Evl
/-- the keys of a dict that stands in the written part -/
def KKeys (K : PySem.W.Frag) (d : Addr) (ks : List Str) : Prop := ∃ es n, K.lookup d = some ⟨.type "dict", none, .dict es n, #[]⟩ ∧ (d == sysModules) = false ∧ es.size = ks.length ∧ ∀ (i : Nat) x, ks[i]? = some x → ∃ (en : DictEntry) (t : Tok), es[i]? = some en ∧ en.key = .str x t
def Itkk (ks : List Str) : It := ⟨fun i _ => i < ks.length, fun i H x H' => H' = H ∧ ∃ k, ks[i]? = some k ∧ x = .str k, fun i _ => ks.length ≤ i⟩
theorem walk_kk {ks : List Str} : Walk (Itkk ks) ks.length (fun _ => True) (fun i H x H' => H' = H ∧ ∃ k, ks[i]? = some k ∧ x = .str k) :=
  ⟨fun _ _ hi _ => hi, fun _ _ => Nat.le_refl _, fun _ _ _ _ _ _ y => y⟩
section
variable {P : Program} {w : World} {K : PySem.W.Frag} {tg : Expr} {d : Addr} {es : Array DictEntry} {ep : Nat}
theorem turn_kk {ks : List Str} (it : Addr) (hl : K.lookup d = some ⟨.type "dict", none, .dict es ep, #[]⟩) (hsz : es.size = ks.length) (hk : ∀ (i : Nat) x, ks[i]? = some x → ∃ (en : DictEntry) (t : Tok), es[i]? = some en ∧ en.key = .str x t) :
    Turn P w K tg (Itkk ks) [it] it (fun i h => h.IsKeyIter it d i ks.length ep) where
  mem := by simp
  obj := fun i h st b hb => by
    have e : b = it := by simpa using hb
    subst e
    obtain ⟨oi, e, c, dd⟩ := st
    exact ⟨oi, e, fun v z => by rw [dd] at z; cases z⟩
  keep := fun i h h' st k => st.at fun oi e => k it (by simp) oi e
  item := by
    intro X hP hw hK hc i pins s σ H E I hf st hg
    subst hP hw hK
    obtain ⟨f0, f1, f2, f3, f4, f5⟩ := hf it (by simp)
    obtain ⟨x, hx⟩ : ∃ p, ks[i]? = some p := ⟨ks[i]'hg, List.getElem?_eq_getElem hg⟩
    obtain ⟨en, t, hen, hkey⟩ := hk i x hx
    refine next_key_item st (I.kIn d _ hl) rfl hsz hen fun h' st' sb => ?_
    have I1 : Inv X pins σ H { s with heap := h' } := I.turned (t' := s.toks) (fun b ob hb e => (sb.2 b hb).trans e) f0 f1 f3 f4 f5
    obtain ⟨oi, e, c, dd⟩ := id st'
    exact ⟨en.key, rfl, go_of (s := { s with heap := h' }) e c dd (by decide) ⟨.str x, H, I1, ⟨t, hkey⟩, ⟨rfl, x, hx, rfl⟩, st', fun b hb => (hf b hb).1⟩⟩
  done := by
    intro X hP hw hK hc i pins s σ H E I hf st hg
    subst hP hw hK
    obtain ⟨f0, f1, f2, f3, f4, f5⟩ := hf it (by simp)
    exact next_key_end (I.ok.hd hc) st (I.kIn d _ hl) rfl hsz hg fun h' eb => ⟨rfl, I.turned (t' := s.toks) (fun b ob hb e => eb b ob hb e) f0 f1 f3 f4 f5⟩
  self := fun A i s Q E st h => by
    refine wpAny_pyIter_slot st.typeIs F.slot_dict_keyiterator_iter (wpAny_call_entry F.slot_dict_keyiterator_iter st.typeIs F.entry_dict_keyiterator_iter ?_ (F.args_dict_keyiterator_iter_1 _))
    show wpAny _ _ (ret (.ref it)) _ _ s
    exact wpAny_pure ⟨_, rfl, "dict_keyiterator", _, st.typeIs, F.slot_dict_keyiterator_next.lookup, h⟩
end
def iKeysK (K : PySem.W.Frag) (td : TE) : TI := fun σ H R => td σ H fun x H1 => ∃ d ks, x = .ref d ∧ KKeys K d ks ∧ R (Itkk ks) H1
section
variable {X : Cx} {tg e : Expr} {td : TE}
theorem pi_keysK (he : PE X e td) : PI X tg e (iKeysK X.K td) := by
  refine ⟨fun pins s σ H R I h => ?_⟩
  refine thn (he.run pins s σ H _ I h) fun u s1 ⟨x, H1, I1, rx, d, ks, ex, ⟨es, n, hl, hgd, hsz, hk⟩, q⟩ => ?_
  subst ex
  obtain rfl : u = Value.ref d := rx
  refine iter_keys hgd (I1.kIn d _ hl) ⟨rfl, rfl, rfl⟩ rfl (pi_one (tk := s1.toks) I1 _ (turn_kk _ hl hsz hk) ⟨_, Heap.get?_push_size _ rfl, rfl, ?_⟩ q)
  rw [hsz] <;> rfl
end
end RT
/-! an expression's writing; reading it back: the mathematics -/
namespace RT
open PySem PySem.Spec PyProof.Rows L2 Evl
def Wd.least : Wd → Nat
  | .equal => 2
  | .less => 2
  | .not => 1
  | .both => 2
  | .either => 2
  | .sum => 1
  | .joined => 1
  | .size => 1
  | .has => 1
  | .orElse => 2
def Wd.open : Wd → Bool
  | .sum => true
  | .joined => true
  | _ => false
def allW : List Wd := [.equal, .less, .not, .both, .either, .sum, .joined, .size, .has, .orElse]
def wordsL : List Str := allW.map Wd.str
theorem mem_allW (w : Wd) : w ∈ allW := by cases w <;> decide
/-- the module's table of words -/
structure Kl (K : PySem.W.Frag) (w : World) (mg : Str → Option Value) : Prop where
  least : ∃ a, mg "LEAST" = some (.ref a) ∧ KKeys K a wordsL ∧ ∀ v : Wd, KDct K w a v.str (.int (v.least : Int))
mutual
def cod : Tree → List Nat
  | .get ns => getCodes ns
  | .text x => 34 :: (tl x ++ [34])
  | .number n => nCodes n
  | .flag b => tl (if b = true then "true" else "false")
  | .call w ts => tl w.str ++ 40 :: (argC ts ++ [41])
def argC : List Tree → List Nat
  | [] => []
  | t :: r => cod t ++ argT r
def argT : List Tree → List Nat
  | [] => []
  | t :: r => 44 :: 32 :: (cod t ++ argT r)
end
inductive Pr : Tree → Prop where
  | get {n : Str} {r : List Str} : NmOk n → (∀ x ∈ r, NmOk x) → r.length ≤ 100 → n ∉ (["true", "false", "self"] : List Str) → Pr (.get (n :: r))
  | text {x : Str} : Quot x → Pr (.text x)
  | number {n : Int} : (∃ sg ds, NumOk n sg ds) → Pr (.number n)
  | flag (b : Bool) : Pr (.flag b)
  | call {w : Wd} {ts : List Tree} : ts ≠ [] → ts.length ≤ 100 → (ts.length = w.least ∨ (w.least < ts.length ∧ w.open = true)) → (∀ t ∈ ts, Pr t) → Pr (.call w ts)
/-- the letters of words and names, and the sign between -/
def wch (c : Nat) : Bool := low c || decide (c = 95)
theorem word_ch (w : Wd) : ∀ c ∈ tl w.str, wch c = true := by
  have h : (tl w.str).all wch = true := by cases w <;> decide +kernel
  exact fun c hc => List.all_eq_true.mp h c hc
theorem word_len (w : Wd) : 0 < (tl w.str).length ∧ (tl w.str).length ≤ 7 := by cases w <;> decide +kernel
theorem word_inj {v w : Wd} (h : tl v.str = tl w.str) : v = w := by
  revert h
  cases v <;> cases w <;> first | (intro _; rfl) | (intro h; exact absurd h (by decide +kernel))
theorem word_of {i : Nat} {x : Str} (h : wordsL[i]? = some x) : ∃ w : Wd, allW[i]? = some w ∧ x = w.str := by
  unfold wordsL at h
  rw [List.getElem?_map] at h
  cases e : allW[i]? with
  | none => rw [e] at h; cases h
  | some w => rw [e] at h; exact ⟨w, rfl, (Option.some.inj h).symm⟩
theorem word_at (w : Wd) : ∃ i, i < 10 ∧ allW[i]? = some w := by
  cases w
  · exact ⟨0, by decide, rfl⟩
  · exact ⟨1, by decide, rfl⟩
  · exact ⟨2, by decide, rfl⟩
  · exact ⟨3, by decide, rfl⟩
  · exact ⟨4, by decide, rfl⟩
  · exact ⟨5, by decide, rfl⟩
  · exact ⟨6, by decide, rfl⟩
  · exact ⟨7, by decide, rfl⟩
  · exact ⟨8, by decide, rfl⟩
  · exact ⟨9, by decide, rfl⟩
theorem allW_inj {i j : Nat} {w : Wd} (h1 : allW[i]? = some w) (h2 : allW[j]? = some w) : i = j := by
  have nd : allW.Nodup := by decide
  obtain ⟨h3, h4⟩ := List.getElem?_eq_some_iff.mp h1
  obtain ⟨h5, h6⟩ := List.getElem?_eq_some_iff.mp h2
  exact (List.getElem_inj nd).mp (h4.trans h6.symm)
theorem tw_ne {X Z : List Nat} (h : ∀ c ∈ X, c ≠ 40) : (X ++ 40 :: Z).takeWhile (fun c => decide (c ≠ 40)) = X :=
  tw_app (fun c hc => by simpa using h c hc) (fun c hc => by simp at hc; subst hc; rfl)
theorem wch_ne {c : Nat} (h : wch c = true) : c ≠ 40 := by rintro rfl; revert h; decide
theorem take_split {X Y : List Nat} {n : Nat} (h : X.take n = Y) : X = Y ++ X.drop n := by rw [← h, List.take_append_drop]
/-- a word's call is met by its own word alone -/
theorem word_meets {v w : Wd} {Z : List Nat} : (tl w.str ++ 40 :: Z).take ((tl v.str).length + 1) = tl v.str ++ [40] ↔ v = w := by
  constructor
  · intro h
    have e := take_split h
    have e1 := congrArg (fun l => l.takeWhile (fun c => decide (c ≠ 40))) e
    rw [tw_ne (fun c hc => wch_ne (word_ch w c hc)), List.append_assoc, List.singleton_append, tw_ne (fun c hc => wch_ne (word_ch v c hc))] at e1
    exact word_inj e1.symm
  · rintro rfl
    rw [show tl v.str ++ 40 :: Z = (tl v.str ++ [40]) ++ Z by simp]
    exact List.take_left' (by simp)
/-- letters and then no bracket: no word's call -/
theorem word_misses {v : Wd} {N Y : List Nat} (hN : ∀ c ∈ N, low c = true) (hY : ∀ c, Y.head? = some c → c = 46 ∨ c = 44 ∨ c = 41) : (N ++ Y).take ((tl v.str).length + 1) ≠ tl v.str ++ [40] := by
  intro h
  have e := take_split h
  rw [List.append_assoc, List.singleton_append] at e
  by_cases hl : (tl v.str).length < N.length
  · have e1 := congrArg (fun l => l[(tl v.str).length]?) e
    rw [List.getElem?_append_left hl, List.getElem?_append_right (Nat.le_refl _), Nat.sub_self, List.getElem?_cons_zero] at e1
    have := hN 40 (List.mem_of_getElem? e1)
    revert this
    decide
  · have e1 := congrArg (fun l => l[N.length]?) e
    rw [List.getElem?_append_right (Nat.le_refl _), Nat.sub_self] at e1
    have hy : ∀ c, Y[0]? = some c → c = 46 ∨ c = 44 ∨ c = 41 := fun c hc => hY c (by rw [List.head?_eq_getElem?]; exact hc)
    by_cases h2 : N.length < (tl v.str).length
    · rw [List.getElem?_append_left h2] at e1
      obtain ⟨c, hc⟩ : ∃ c, (tl v.str)[N.length]? = some c := ⟨_, List.getElem?_eq_getElem h2⟩
      rw [hc] at e1
      have h3 := word_ch v c (List.mem_of_getElem? hc)
      rcases hy c e1 with rfl | rfl | rfl <;> revert h3 <;> decide
    · have h4 : N.length = (tl v.str).length := by omega
      rw [h4, List.getElem?_append_right (Nat.le_refl _), Nat.sub_self, List.getElem?_cons_zero] at e1
      rcases hy 40 e1 with h | h | h <;> simp at h
theorem Behind.arg {ts : List Tree} {R : List Nat} : Behind (argT ts ++ 41 :: R) := by
  intro c hc
  cases ts with
  | nil => simp [argT] at hc; exact .inr hc.symm
  | cons t r => simp [argT] at hc; exact .inl hc.symm
theorem argC_cons (t : Tree) (r : List Tree) : argC (t :: r) = cod t ++ argT r := rfl
theorem argT_cons (t : Tree) (r : List Tree) : argT (t :: r) = 44 :: 32 :: argC (t :: r) := rfl
theorem dep_pos (t : Tree) : 1 ≤ dep t := by cases t <;> simp [dep]
end RT
/-! reading an expression: calls and trees -/
namespace RT
open PySem PySem.Spec PyProof.Rows L2 Evl
section
variable {P : Program} {w : World} {K : PySem.W.Frag} {mg : Str → Option Value} {base : Heap} {k : Nat}
def spTree (K : PySem.W.Frag) (n : Nat) : Sp := fun vs H Q _ => ∃ (L : List Nat) (a lev : Nat) (t : Tree) (R : List Nat), vs = [.str (S L), .int (a : Int), .int (lev : Int)] ∧ L.length ≤ 100000 ∧ L.drop a = cod t ++ R ∧ Behind R ∧ Pr t ∧ dep t ≤ n ∧ lev + dep t ≤ 9 ∧
  Found K H Q t (a + (cod t).length)
def spCall (K : PySem.W.Frag) (n : Nat) : Sp := fun vs H Q _ => ∃ (L : List Nat) (a lev : Nat) (wd : Wd) (ts : List Tree) (R : List Nat), vs = [.str (S L), .int (a : Int), .str wd.str, .int (lev : Int)] ∧ L.length ≤ 100000 ∧ L.drop a = argC ts ++ 41 :: R ∧ Pr (.call wd ts) ∧
  deps ts ≤ n ∧ lev + deps ts ≤ 9 ∧ Found K H Q (.call wd ts) (a + (argC ts).length + 1)
abbrev st_read_call : Stmt := (topS 28)
theorem sc_read_call : FnScope ["text", "at", "word", "level", "trees", "found"] ["text", "at", "word", "level"] (defScope st_read_call) := ⟨rfl, rfl, rfl, by decide +kernel, rfl, by decide +kernel, by decide +kernel⟩
theorem ok_read_call (n : Nat) (T : Bi mg) (TK : Kx K mg) (TL : Kl K w mg) (F : Df K mg "read_call" ["text", "at", "word", "level"] st_read_call) (cread_tree : Cl P w K mg base (2 * n + 2) "read_tree" (spTree K n)) :
    Cl P w K mg base (2 * n + 3) "read_call" (spCall K n) := by
  obtain ⟨aLEAST, hLEAST, hLK, hLV⟩ := TL.least
  obtain ⟨aOPEN, hOPEN, hOT⟩ := TK.opn
  refine F.ok sc_read_call (fun vs H Q E h => ?_) (fun f cdv A outer s H vs Q E hr h => ?_)
  · obtain ⟨L, a, lev, wd, ts, R, rfl, _⟩ := h
    rfl
  obtain ⟨L, a, lev, wd, ts, R, rfl, hl, hL, hP, hd, hv, q⟩ := h
  refine ⟨_, (pss_cons (ps_set (i := 4) sc_read_call.nd rfl (Or.inl rfl) (pe_lst pa_nil))
      (pss_cons (ps_while PassesOwn.never (pt_val pe_bl) (pss_cons (ps_set (i := 5) sc_read_call.nd rfl (Or.inl rfl) (pc cread_tree hr (by omega) rfl (pa_cons (pv 0) (pa_cons (pv 1) (pa_cons (pv 3) pa_nil)))))
      (pss_cons (ps_if (pt_cmpR op_isN (pv 5) pe_non (nomark _)) (pss_one (ps_ret pe_non)) pss_nil)
      (pss_cons (ps_expr (pe_bm PySem.F.plainAttrs_list PySem.F.slot_list_append PySem.F.type_list_append mt_append (pv 4) (pa_cons (pe_ix ix_tup (pv 5) pe_int (fun _ _ => rfl)) pa_nil)))
      (pss_cons (ps_set (i := 1) sc_read_call.nd rfl (Or.inl rfl) (pe_ix ix_tup (pv 5) pe_int (fun _ _ => rfl)))
      (pss_cons (ps_if (pt_cmpR op_eq (pe_slice sl_str (pv 0) (po_some (pv 1)) (po_some (pe_op op_add (pv 1) pe_int))) pe_str (nomark _)) (pss_one ps_break) pss_nil)
      (pss_cons (ps_if (pt_cmpR op_ne (pe_slice sl_str (pv 0) (po_some (pv 1)) (po_some (pe_op op_add (pv 1) pe_int))) pe_str (nomark _)) (pss_one (ps_ret pe_non)) pss_nil)
      (pss_one (ps_aug (i := 1) sc_read_call.nd rfl (Or.inl rfl) pe_int ip_add)))))))))
      (pss_cons (ps_if (PW.pt (pw_or (pt_cmpR op_lt (pe_callB call_len_seq rfl T.len PySem.boot_len (pa_cons (pv 4) pa_nil)) (pe_ix ix_kdict (pe_glob (by rfl) hLEAST (show RelV (.ref aLEAST) _ from rfl)) (pv 2) (fun _ _ => rfl)) (nomark _)) (pw_or1 (PW.pt (pw_and (pt_cmpR op_gt (pe_callB call_len_seq rfl T.len PySem.boot_len (pa_cons (pv 4) pa_nil)) (pe_ix ix_kdict (pe_glob (by rfl) hLEAST (show RelV (.ref aLEAST) _ from rfl)) (pv 2) (fun _ _ => rfl)) (nomark _)) (pw_and1 (pt_cmpR op_notIn_seq (pv 2) (pe_glob (by rfl) hOPEN (show RelV (.ref aOPEN) _ from rfl)) rfl))))))) (pss_one (ps_ret pe_non)) pss_nil)
      (pss_one (ps_ret (pe_tup (pa_cons (pe_tup (pa_cons pe_str (pa_cons (pv 2) (pa_cons (pe_callTy call_tuple_of rfl T.tup (by decide +kernel) (pa_cons (pv 4) pa_nil)) pa_nil)))) (pa_cons (pe_op op_add (pv 1) pe_int) pa_nil)))))))), ?_⟩
  have hz : (S L).length ≤ sizeLine := by rw [S_len]; exact sz hl
  cases hP with
  | call hne h100 har hall =>
  refine ⟨by show 0 ≤ sizeLine; decide, fun p hp => ?_⟩
  refine ⟨fun m σ' H' => ∃ (dn qd : List Tree) (b : Nat) (fnd : Option V) (xs : List V), σ' = [some (.str (S L)), some (.int (b : Int)), some (.str wd.str), some (.int (lev : Int)), some (.ref p), fnd] ∧ ts = dn ++ qd ∧ qd ≠ [] ∧ L.drop b = argC qd ++ 41 :: R ∧
      b + (argC qd).length = a + (argC ts).length ∧ Ex H H' ∧ H' p = some (.lst xs) ∧ DpAll K H' xs (tds dn) ∧ m = qd.length,
    ⟨_, [], ts, a, none, [], rfl, rfl, hne, hL, rfl, Ex.new hp, upd_same, .nil, rfl⟩, ?_⟩
  rintro m σ' H' ⟨dn, qd, b, fnd, xs, rfl, hts, hq0, hLb, hb, ex, hpl, hxs, rfl⟩
  refine ⟨_, rfl, ?_⟩
  refine iteT ?_
  refine ⟨fun σ2 H2 => ∃ (dn qd' : List Tree) (b : Nat) (fnd : Option V) (xs : List V), σ2 = [some (.str (S L)), some (.int (b : Int)), some (.str wd.str), some (.int (lev : Int)), some (.ref p), fnd] ∧ ts = dn ++ qd' ∧ qd' ≠ [] ∧ L.drop b = argC qd' ++ 41 :: R ∧
      b + (argC qd').length = a + (argC ts).length ∧ Ex H H2 ∧ H2 p = some (.lst xs) ∧ DpAll K H2 xs (tds dn) ∧ qd'.length < qd.length, ?_, ?_⟩
  · rintro σ2 H2 ⟨dn, qd', b, fnd, xs, h1, h2, h3, h4, h5, h6, h7, h8, h9⟩
    exact ⟨_, h9, dn, qd', b, fnd, xs, h1, h2, h3, h4, h5, h6, h7, h8, rfl⟩
  cases qd with
  | nil => exact absurd rfl hq0
  | cons t qd =>
  have htm : t ∈ ts := by rw [hts]; simp
  have hdt : dep t ≤ deps ts := dep_le_deps htm
  have hLt : L.drop b = cod t ++ (argT qd ++ 41 :: R) := by rw [hLb, argC_cons, List.append_assoc]
  refine ⟨_, rfl, _, rfl, _, rfl, L, b, lev, t, argT qd ++ 41 :: R, rfl, hl, hLt, Behind.arg, hall t htm, by omega, by omega, fun p1 H1 e1 hp1 => ?_⟩
  obtain ⟨p1', ys, e, hT, hA⟩ := Dp.tupInv hp1
  cases e
  obtain ⟨v0, hv0, hd0⟩ := DpAll.get hA (i := 0) rfl
  obtain ⟨v1, hv1, hd1⟩ := DpAll.get hA (i := 1) rfl
  obtain rfl := Dp.intInv hd1
  have hp3 : H1 p = some (.lst xs) := e1 p _ hpl
  refine ⟨_, rfl, rfl, _, rfl, ?_⟩
  rw [show decide (V.ref p1 = V.non) = false from rfl]
  refine iteF ?_
  have hlen : xs.length ≤ 100 := by
    have h1 := DpAll.length hxs
    rw [tds_len] at h1
    have h2 : dn.length ≤ ts.length := by rw [hts]; simp
    omega
  refine ⟨_, rfl, .inl ⟨rfl, _, SqL.of hp3⟩, _, rfl, p1, _, _, _, rfl, rfl, hT, at_of (j := 0) rfl hv0, p, _, _, rfl, rfl, hp3, szl (by omega), ?_⟩
  have im1 : Im H1 (upd H1 p (.lst (xs ++ [v0]))) := Im.lst hp3
  have ex2 : Ex H (upd H1 p (.lst (xs ++ [v0]))) := (ex.trans e1).mut hp
  refine ⟨_, rfl, p1, _, _, _, rfl, rfl, im1.sqT hT, at_of (j := 1) rfl hv1, ?_⟩
  have hxs2 : DpAll K (upd H1 p (.lst (xs ++ [v0]))) (xs ++ [v0]) (tds (dn ++ [t])) := by
    rw [tds_snoc]
    exact DpAll.snoc (DpAll.im ((Im.ex e1).trans im1) (noL_tds _) hxs) (Dp.im im1 (noL_td t) hd0)
  have hL2 : L.drop (b + (cod t).length) = argT qd ++ 41 :: R := drop_more hLt
  refine ⟨_, rfl, _, rfl, _, rfl, _, rfl, _, _, rfl, rfl, _, rfl, _, rfl, hz, rfl, _, rfl, ?_⟩
  rw [slice1 L rfl rfl, take1_eq (c := 41) (by decide +kernel), hL2]
  cases qd with
  | nil =>
    rw [decide_eq_true (by simp [argT])]
    refine iteT ?_
    have hlen2 : (xs ++ [v0]).length = ts.length := by
      have h1 := DpAll.length hxs2
      rw [tds_len] at h1
      rw [h1, hts]
    have hopen : wd.open = true → inV (.str wd.str) [V.str "sum", V.str "joined"] = true := by
      intro ho
      cases wd <;> first | (exact absurd ho (by decide)) | decide +kernel
    have hb2 : b + (cod t).length + 1 = a + (argC ts).length + 1 := by
      simp [argC, argT] at hb
      omega
    have fin : ∀ (σ' : L2.St), σ' = [some (.str (S L)), some (.int ((b + (cod t).length : Nat) : Int)), some (.str wd.str), some (.int (lev : Int)), some (.ref p), some (.ref p1)] →
        tRet (tTup (tCons (tTup (tCons (tC (.str "call")) (tCons (tVar 2) (tCons (tCB (fun xs H Q => ∃ p ys, xs = [V.ref p] ∧ ((SqL K H p ys ∧ ∀ l, H l = none → Q (.ref l) (upd H l (.tup ys))) ∨ (SqT K H p ys ∧ Q (.ref p) H))) (tCons (tVar 4) tNil)) tNil)))) (tCons (tOp (rI0 fun i j => V.int (i + j)) (tVar 1) (tC (.int 1))) tNil)))
          { nx := fun x H' => Q V.non H', rt := Q } σ' (upd H1 p (.lst (xs ++ [v0]))) := by
      rintro σ' rfl
      refine ⟨_, rfl, _, rfl, p, _, rfl, .inl ⟨SqL.of upd_same, fun l hl => ⟨by show 3 ≤ sizeLine; decide, fun q1 hq1 => ⟨_, rfl, _, _, rfl, rfl, by show 2 ≤ sizeLine; decide, fun q2 hq2 => ?_⟩⟩⟩⟩
      rw [hts] at hb2
      have d0 : Dp K (upd (upd H1 p (.lst (xs ++ [v0]))) l (.tup (xs ++ [v0]))) (.ref l) (.tuple (tds ts)) := by
        rw [hts]
        exact Dp.new hl hxs2 (noL_tds _)
      have hn := noL_tds ts
      refine q q2 _ (ex2.trans ((Ex.new hl).trans ((Ex.new hq1).trans (Ex.new hq2)))) ?_
      have e4 : ((b + (cod t).length : Nat) : Int) + 1 = ((a + (argC ts).length + 1 : Nat) : Int) := by
        rw [hts]
        omega
      dsimp only
      rw [e4]
      refine Dp.new hq2 (.cons (Dp.new hq1 (.cons (.str _) (.cons (.str _) (.cons d0 .nil))) (by simp only [noLs, noL, hn]; rfl)) (.cons (.int _) .nil)) (by simp only [noLs, noL, td, hn]; rfl)
    refine ⟨_, rfl, p, _, rfl, .inl (SqL.of upd_same), _, rfl, aLEAST, _, _, rfl, rfl, hLV wd, _, _, rfl, rfl, _, rfl, ?_⟩
    rw [decide_eq_false (show ¬ ((((xs ++ [v0]).length : Nat) : Int) < (wd.least : Int)) by rw [hlen2]; omega)]
    refine ⟨_, rfl, p, _, rfl, .inl (SqL.of upd_same), _, rfl, aLEAST, _, _, rfl, rfl, hLV wd, _, _, rfl, rfl, _, rfl, ?_⟩
    rcases har with har | ⟨har, ho⟩
    · rw [decide_eq_false (show ¬ ((wd.least : Int) < (((xs ++ [v0]).length : Nat) : Int)) by rw [hlen2]; omega)]
      exact fin _ rfl
    · rw [decide_eq_true (show ((wd.least : Int) < (((xs ++ [v0]).length : Nat) : Int)) by rw [hlen2]; omega)]
      refine ⟨_, rfl, aOPEN, _, rfl, .inr (hOT _), rfl, rfl, _, rfl, ?_⟩
      rw [if_pos rfl, hopen ho]
      exact fin _ rfl
  | cons u qd =>
    rw [decide_eq_false (by simp [argT])]
    refine iteF ?_
    refine ⟨_, rfl, _, rfl, _, rfl, _, rfl, _, _, rfl, rfl, _, rfl, _, rfl, hz, rfl, _, rfl, ?_⟩
    have e2 : cutS (S L) (some ((b + (cod t).length : Nat) : Int)) (some (((b + (cod t).length : Nat) : Int) + 2)) = (", " : Str) := by
      rw [cut_at L rfl (b := b + (cod t).length + 2) (by omega), hL2, Nat.add_sub_cancel_left, argT_cons]
      show S [44, 32] = _
      decide +kernel
    rw [e2]
    refine iteNS rfl ?_
    refine ⟨_, rfl, _, _, rfl, rfl, dn ++ [t], u :: qd, b + (cod t).length + 2, _, _, rfl, by simp [hts], by simp, ?_, ?_, ex2, upd_same, hxs2, by simp⟩
    · have := drop_more (X := [44, 32]) (R := argC (u :: qd) ++ 41 :: R) (L := L) (a := b + (cod t).length) (by rw [hL2, argT_cons]; simp)
      simpa using this
    · rw [argC_cons, argT_cons] at hb
      simp only [List.length_append, List.length_cons] at hb
      omega
end
end RT
/-! reading an expression: trees -/
namespace RT
open PySem PySem.Spec PyProof.Rows L2 Evl
section
variable {P : Program} {w : World} {K : PySem.W.Frag} {mg : Str → Option Value} {base : Heap} {k : Nat}
theorem Found.ex {H H' : Hp} {Q : VK} {t : Tree} {e : Nat} (h : Found K H Q t e) (x : Ex H H') : Found K H' Q t e := fun p H2 e2 d => h p H2 (x.trans e2) d
theorem word_test {L : List Nat} {a : Nat} {x : Str} {i j : Int} (hi : i = (a : Int)) (hj : j = ((a + x.length + 1 : Nat) : Int)) :
    decide (V.str (cutS (S L) (some i) (some j)) = V.str (x ++ "(")) = decide ((L.drop a).take ((tl x).length + 1) = tl x ++ [40]) := by
  have e1 : x ++ ("(" : Str) = S (tl x ++ [40]) := by
    have h1 : ("(" : Str) = S [40] := by decide +kernel
    rw [h1]
    have h2 : x = S (tl x) := (S_of x).symm
    exact (congrArg (· ++ S [40]) h2).trans (SX.S_cat _ _)
  rw [cut_at L hi hj, e1, Nat.add_assoc, Nat.add_sub_cancel_left]
  by_cases h : (L.drop a).take ((tl x).length + 1) = tl x ++ [40]
  · rw [decide_eq_true h]
    exact decide_eq_true (congrArg (fun z => V.str (S z)) h)
  · rw [decide_eq_false h]
    exact decide_eq_false fun z => h (SX.S_inj (V.str.inj z))
/-- what a writing begins with -/
theorem cod_head {t : Tree} (h : Pr t) : ∃ c r, cod t = c :: r ∧ ((∃ x, t = .text x ∧ c = 34) ∨ (∃ n, t = .number n ∧ (c = 45 ∨ dig c = true)) ∨ (low c = true ∧ (∀ x, t ≠ .text x) ∧ ∀ n, t ≠ .number n)) := by
  cases h with
  | @get n r h1 h2 h3 h4 =>
    have h5 := h1.len
    cases e : tl n with
    | nil => rw [e] at h5; simp at h5
    | cons c q => exact ⟨c, q ++ tailD r, by simp [cod, getCodes, e], .inr (.inr ⟨h1.low c (by rw [e]; simp), by simp, by simp⟩)⟩
  | text h => exact ⟨34, _, rfl, .inl ⟨_, rfl, rfl⟩⟩
  | @number n h =>
    obtain ⟨sg, ds, N⟩ := h
    have he := N.e
    cases hd : ds with
    | nil => exact absurd hd N.ne
    | cons d r =>
      rcases N.sgn with e | e
      · refine ⟨d, r, ?_, .inr (.inl ⟨n, rfl, .inr (N.dg d (by rw [hd]; simp))⟩)⟩
        rw [e, hd] at he
        exact he
      · refine ⟨45, d :: r, ?_, .inr (.inl ⟨n, rfl, .inl rfl⟩)⟩
        rw [e, hd] at he
        exact he
  | flag b =>
    cases b with
    | true => exact ⟨116, [114, 117, 101], by decide +kernel, .inr (.inr ⟨by decide, by simp, by simp⟩)⟩
    | false => exact ⟨102, [97, 108, 115, 101], by decide +kernel, .inr (.inr ⟨by decide, by simp, by simp⟩)⟩
  | @call w ts h1 h2 h3 h4 =>
    have h5 : ∃ c r, tl w.str = c :: r ∧ low c = true := by
      cases w <;> exact ⟨_, _, rfl, by decide +kernel⟩
    obtain ⟨c, r, e, hc⟩ := h5
    exact ⟨c, _, by simp only [cod, e]; rfl, .inr (.inr ⟨hc, by simp, by simp⟩)⟩
abbrev st_read_tree : Stmt := (topS 29)
theorem sc_read_tree : FnScope ["text", "at", "level", "word"] ["text", "at", "level"] (defScope st_read_tree) := ⟨rfl, rfl, rfl, by decide +kernel, rfl, by decide +kernel, by decide +kernel⟩
theorem ok_read_tree (n : Nat) (T : Bi mg) (TL : Kl K w mg) (F : Df K mg "read_tree" ["text", "at", "level"] st_read_tree) (cread_quoted : Cl P w K mg base 1 "read_quoted" (spQuoted K)) (cread_digits : Cl P w K mg base 1 "read_digits" (spDigits K))
    (cread_variable : Cl P w K mg base 2 "read_variable" (spVariable K)) (cname_from : Cl P w K mg base 1 "name_from" spNameFrom) (cread_call : Cl P w K mg base (2 * n + 3) "read_call" (spCall K n)) :
    Cl P w K mg base (2 * (n + 1) + 2) "read_tree" (spTree K (n + 1)) := by
  obtain ⟨aLEAST, hLEAST, hLK, hLV⟩ := TL.least
  refine F.ok (k := 2 * n + 3) sc_read_tree (fun vs H Q E h => ?_) (fun f cdv A outer s H vs Q E hr h => ?_)
  · obtain ⟨L, a, lev, t, R, rfl, _⟩ := h
    rfl
  obtain ⟨L, a, lev, t, R, rfl, hl, hL, hR, hP, hd, hv, q⟩ := h
  refine ⟨_, (pss_cons (ps_if (PW.pt (pw_or (pt_cmpR op_gt (pv 2) (C8.pe_gc rfl T.mlev) (nomark _)) (pw_or1 (pt_cmpR op_ge (pv 1) (pe_callB call_len_str rfl T.len PySem.boot_len (pa_cons (pv 0) pa_nil)) (nomark _))))) (pss_one (ps_ret pe_non)) pss_nil)
      (pss_cons (ps_if (pt_cmpR op_eq (pe_ix ix_str (pv 0) (pv 1) (fun _ _ => rfl)) pe_str (nomark _)) (pss_one (ps_ret (pc cread_quoted hr (by omega) rfl (pa_cons (pv 0) (pa_cons (pv 1) pa_nil))))) pss_nil)
      (pss_cons (ps_if (PW.pt (pw_or (pt_cmpR op_eq (pe_ix ix_str (pv 0) (pv 1) (fun _ _ => rfl)) pe_str (nomark _)) (pw_or1 (pt_cmpR op_in_sign (pe_ix ix_str (pv 0) (pv 1) (fun _ _ => rfl)) (C8.pe_gc rfl T.digits) rfl)))) (pss_one (ps_ret (pc cread_digits hr (by omega) rfl (pa_cons (pv 0) (pa_cons (pv 1) pa_nil))))) pss_nil)
      (pss_cons (ps_for PassesOwn.never rfl (pi_keysK (pe_glob (by rfl) hLEAST (show RelV (.ref aLEAST) _ from rfl))) (pg_name (i := 3) sc_read_tree.nd rfl (Or.inl rfl)) (pss_one (ps_if (pt_cmpR op_eq (pe_slice sl_str (pv 0) (po_some (pv 1)) (po_some (pe_op op_add (pe_op op_add (pv 1) (pe_callB call_len_str rfl T.len PySem.boot_len (pa_cons (pv 3) pa_nil))) pe_int))) (pe_op op_add_str (pv 3) pe_str) (nomark _)) (pss_one (ps_ret (pc cread_call hr (by omega) rfl (pa_cons (pv 0) (pa_cons (pe_op op_add (pe_op op_add (pv 1) (pe_callB call_len_str rfl T.len PySem.boot_len (pa_cons (pv 3) pa_nil))) pe_int) (pa_cons (pv 3) (pa_cons (pe_op op_add (pv 2) pe_int) pa_nil))))))) pss_nil)))
      (pss_cons (ps_for PassesOwn.never rfl (pi_tup (pe_tup (pa_cons pe_str (pa_cons pe_str pa_nil)))) (pg_name (i := 3) sc_read_tree.nd rfl (Or.inl rfl)) (pss_one (ps_if (pt_cmpR op_eq (pc cname_from hr (by omega) rfl (pa_cons (pv 0) (pa_cons (pv 1) pa_nil))) (pv 3) (nomark _)) (pss_one (ps_ret (pe_tup (pa_cons (pe_tup (pa_cons pe_str (pa_cons (pe_cmpR op_eq (pv 3) pe_str (nomark _)) pa_nil))) (pa_cons (pe_op op_add (pv 1) (pe_callB call_len_str rfl T.len PySem.boot_len (pa_cons (pv 3) pa_nil))) pa_nil))))) pss_nil)))
      (pss_one (ps_ret (pc cread_variable hr (by omega) rfl (pa_cons (pv 0) (pa_cons (pv 1) pa_nil)))))))))), ?_⟩
  have hz : (S L).length ≤ sizeLine := by rw [S_len]; exact sz hl
  obtain ⟨c0, r0, hc, hkind⟩ := cod_head hP
  have hL0 : L.drop a = c0 :: (r0 ++ R) := by rw [hL, hc]; rfl
  have ha : a < L.length := drop_lt hL0
  have hc0 : L[a]? = some c0 := get_drop hL0
  have hdp := dep_pos t
  refine ⟨_, rfl, _, _, rfl, rfl, _, rfl, ?_⟩
  rw [decide_eq_false (show ¬ ((8 : Int) < (lev : Int)) by omega)]
  refine ⟨_, rfl, _, rfl, _, rfl, hz, _, _, rfl, rfl, _, rfl, ?_⟩
  rw [decide_eq_false (show ¬ ((((S L).length : Nat) : Int) ≤ (a : Int)) by rw [S_len]; omega)]
  refine iteF ?_
  refine ⟨_, rfl, _, rfl, _, _, c0, rfl, rfl, hz, at_code rfl hc0, rfl, _, rfl, ?_⟩
  rw [one_eq (d := 34) (by decide +kernel)]
  rcases hkind with ⟨x, rfl, rfl⟩ | ⟨m, rfl, hm⟩ | ⟨hlow, nt, nn⟩
  · refine iteT ?_
    cases hP with
    | text hx =>
      refine ⟨_, rfl, _, rfl, L, a, x, R, rfl, hl, ?_, hx, ?_⟩
      · rw [hL]
        simp [cod]
      · have e : a + x.length + 2 = a + (cod (.text x)).length := by
          simp only [cod, List.length_cons, List.length_append, List.length_nil]
          have : (tl x).length = x.length := rfl
          omega
        rw [e]
        exact q
  · have h34 : ¬ c0 = 34 := by rintro rfl; rcases hm with h | h <;> revert h <;> decide
    rw [decide_eq_false h34]
    refine iteF ?_
    have go : tRet (tCall (spDigits K) [] E0 (tCons (tVar 0) (tCons (tVar 1) tNil))) { nx := fun x H' => Q V.non H', rt := Q } [some (.str (S L)), some (.int (a : Int)), some (.int (lev : Int)), none] H := by
      cases hP with
      | number hN =>
        refine ⟨_, rfl, _, rfl, L, a, m, R, rfl, hl, hL, hN, fun c hc => ?_, q⟩
        rcases hR c hc with rfl | rfl <;> decide
    refine ⟨_, rfl, _, rfl, _, _, c0, rfl, rfl, hz, at_code rfl hc0, rfl, _, rfl, ?_⟩
    rw [one_eq (d := 45) (by decide +kernel)]
    by_cases h45 : c0 = 45
    · rw [decide_eq_true h45]
      exact go
    · rw [decide_eq_false h45]
      refine ⟨_, rfl, _, rfl, _, _, c0, rfl, rfl, hz, at_code rfl hc0, c0, _, rfl, rfl, _, rfl, ?_⟩
      rw [digits_at, hm.resolve_left h45]
      exact go
  · have h34 : ¬ c0 = 34 := by rintro rfl; revert hlow; decide
    have h45 : ¬ c0 = 45 := by rintro rfl; revert hlow; decide
    have hdg : dig c0 = false := by
      cases e : dig c0 with
      | false => rfl
      | true =>
        simp [low, dig] at hlow e
        omega
    rw [decide_eq_false h34]
    refine iteF ?_
    refine ⟨_, rfl, _, rfl, _, _, c0, rfl, rfl, hz, at_code rfl hc0, rfl, _, rfl, ?_⟩
    rw [one_eq (d := 45) (by decide +kernel), decide_eq_false h45]
    refine ⟨_, rfl, _, rfl, _, _, c0, rfl, rfl, hz, at_code rfl hc0, c0, _, rfl, rfl, _, rfl, ?_⟩
    rw [digits_at, hdg]
    refine iteF ?_
    have hcl : (∃ wd ts, t = .call wd ts) ∨ (∃ N Y, L.drop a = N ++ Y ∧ (∀ c ∈ N, low c = true) ∧ (∀ c, Y.head? = some c → c = 46 ∨ c = 44 ∨ c = 41) ∧
        ((∃ b, t = .flag b ∧ N = tl (if b = true then "true" else "false")) ∨ ∃ n r, t = .get (n :: r) ∧ N = tl n ∧ n ∉ (["true", "false", "self"] : List Str))) := by
      cases hP with
      | text h => exact absurd rfl (nt _)
      | number h => exact absurd rfl (nn _)
      | call h1 h2 h3 h4 => exact .inl ⟨_, _, rfl⟩
      | flag b =>
        refine .inr ⟨tl (if b = true then "true" else "false"), R, hL, fun c hc => ?_, fun c hc => .inr (hR c hc), .inl ⟨b, rfl, rfl⟩⟩
        cases b with
        | true => exact List.all_eq_true.mp (show (tl ("true" : Str)).all low = true by decide +kernel) c hc
        | false => exact List.all_eq_true.mp (show (tl ("false" : Str)).all low = true by decide +kernel) c hc
      | @get n r h1 h2 h3 h4 =>
        refine .inr ⟨tl n, tailD r ++ R, ?_, h1.low, fun c hc => ?_, .inr ⟨n, r, rfl, rfl, h4⟩⟩
        · rw [hL]
          simp [cod, getCodes]
        · cases r with
          | nil => exact .inr (hR c (by simpa [tailD] using hc))
          | cons x r =>
            simp [tailD] at hc
            exact .inl hc.symm
    refine ⟨aLEAST, wordsL, rfl, hLK, for_it walk_kk (fun i σ' H' => H' = H ∧ (∃ nm, σ' = [some (.str (S L)), some (.int (a : Int)), some (.int (lev : Int)), nm]) ∧ ∀ wd ts, t = .call wd ts → ∀ j : Nat, allW[j]? = some wd → i ≤ j)
      ⟨rfl, ⟨none, rfl⟩, fun _ _ _ _ _ => Nat.zero_le _⟩ (fun _ _ _ _ _ => trivial) ?_ ?_⟩
    · rintro i x σ' H' H'' hi ⟨rfl, ⟨nm, rfl⟩, st⟩ ⟨rfl, k, hk, rfl⟩
      obtain ⟨w', hw', rfl⟩ := word_of hk
      have hwl := word_len w'
      have hwe : (tl w'.str).length = w'.str.length := rfl
      have hwz : (w'.str).length ≤ sizeLine := sz (by omega)
      have hbr : ("(" : Str).length = 1 := by decide +kernel
      have hsum : (w'.str).length + ("(" : Str).length ≤ sizeLine := sz (by omega)
      refine ⟨_, rfl, _, rfl, _, rfl, _, rfl, _, rfl, _, rfl, hwz, _, _, rfl, rfl, _, _, rfl, rfl, _, rfl, _, rfl, hz, _, rfl, _, _, rfl, rfl, hsum, rfl, _, rfl, ?_⟩
      rw [word_test rfl (by omega)]
      rcases hcl with ⟨wd, ts, rfl⟩ | ⟨N, Y, hN, hlow', hY, _⟩
      · have hLc : L.drop a = tl wd.str ++ 40 :: (argC ts ++ 41 :: R) := by
          rw [hL]
          simp [cod]
        rw [hLc]
        by_cases e : w' = wd
        · subst e
          rw [decide_eq_true (word_meets.mpr rfl)]
          refine iteT ?_
          have hd2 : L.drop (a + w'.str.length + 1) = argC ts ++ 41 :: R := by
            have h1 := drop_more (X := tl w'.str ++ [40]) (R := argC ts ++ 41 :: R) (L := L) (a := a) (by rw [hLc]; simp)
            rw [List.length_append, List.length_singleton, hwe, ← Nat.add_assoc] at h1
            exact h1
          have hdep : dep (.call w' ts) = deps ts + 1 := rfl
          refine ⟨_, rfl, _, rfl, _, rfl, _, rfl, hwz, _, _, rfl, rfl, _, _, rfl, rfl, _, rfl, _, rfl, _, _, rfl, rfl, L, a + w'.str.length + 1, lev + 1, w', ts, R, rfl, hl, hd2, hP, by omega, by omega, ?_⟩
          have e : a + w'.str.length + 1 + (argC ts).length + 1 = a + (cod (.call w' ts)).length := by
            simp only [cod, List.length_cons, List.length_append, List.length_nil]
            omega
          rw [e]
          exact q
        · rw [decide_eq_false (fun h => e (word_meets.mp h))]
          refine iteF ⟨rfl, ⟨_, rfl⟩, fun wd2 ts2 e2 j hj => ?_⟩
          cases e2
          have h1 := st wd ts rfl j hj
          have h2 : i ≠ j := by
            rintro rfl
            rw [hw'] at hj
            exact e (Option.some.inj hj)
          omega
      · rw [hN, decide_eq_false (word_misses hlow' hY)]
        refine iteF ⟨rfl, ⟨_, rfl⟩, fun wd2 ts2 e2 j hj => ?_⟩
        subst e2
        rename_i hk2
        rcases hk2 with ⟨b, e3, _⟩ | ⟨n, r, e3, _⟩ <;> cases e3
    · rintro σ' H' ⟨rfl, ⟨nm, rfl⟩, st⟩
      rcases hcl with ⟨wd, ts, rfl⟩ | ⟨N, Y, hN, hlow', hY, hk2⟩
      · obtain ⟨j, hj, hj2⟩ := word_at wd
        have := st wd ts rfl j hj2
        have h10 : wordsL.length = 10 := rfl
        omega
      have htw : (L.drop a).takeWhile low = N := by
        rw [hN]
        exact tw_app hlow' fun c hc => by rcases hY c hc with rfl | rfl | rfl <;> decide
      refine ⟨by show 2 ≤ sizeLine; decide, fun p hp => ⟨p, rfl, ⟨_, SqT.of upd_same⟩, for_tup (K := K) (a := p) (xs := [.str "true", .str "false"])
        (fun i σ' H2 => H2 = upd H' p (.tup [.str "true", .str "false"]) ∧ (∃ nm, σ' = [some (.str (S L)), some (.int (a : Int)), some (.int (lev : Int)), nm]) ∧ ∀ b, t = .flag b → i ≤ (if b = true then 0 else 1))
        ⟨rfl, ⟨_, rfl⟩, fun _ _ => Nat.zero_le _⟩ (fun i σ' H2 _ ⟨e, _⟩ => by rw [e]; exact SqT.of upd_same) ?_ ?_⟩⟩
      · rintro i x σ' H2 hx ⟨rfl, ⟨nm, rfl⟩, st2⟩
        obtain ⟨b1, hb1, hb2⟩ : ∃ b1 : Bool, x = V.str (if b1 = true then "true" else "false") ∧ i = (if b1 = true then 0 else 1) := by
          match i, hx with
          | 0, hx => exact ⟨true, (Option.some.inj hx).symm, rfl⟩
          | 1, hx => exact ⟨false, (Option.some.inj hx).symm, rfl⟩
          | i + 2, hx => simp at hx
        subst hb1
        refine ⟨_, rfl, _, rfl, L, a, rfl, hl, _, rfl, rfl, _, rfl, ?_⟩
        rw [htw]
        have ex1 : Ex H' (upd H' p (.tup [.str "true", .str "false"])) := Ex.new hp
        rcases hk2 with ⟨b, rfl, rfl⟩ | ⟨n, r, rfl, rfl, hv2⟩
        · by_cases e : b = b1
          · subst e
            rw [S_of, decide_eq_true rfl]
            refine iteT ?_
            have hfz : (if b = true then ("true" : Str) else "false").length ≤ sizeLine := by cases b <;> decide +kernel
            refine ⟨_, rfl, rfl, by show 2 ≤ sizeLine; decide, fun q1 hq1 => ⟨_, rfl, _, rfl, _, rfl, hfz, _, _, rfl, rfl, by show 2 ≤ sizeLine; decide, fun q2 hq2 => ?_⟩⟩
            have e5 : decide (V.str (if b = true then "true" else "false") = V.str "true") = b := by cases b <;> decide +kernel
            have e6 := found_new (q.ex ex1) (xs := [.str "flag", .bl b]) (ds := [.str "flag", .bool b]) (p := q1) (p2 := q2) (i := (a : Int) + (((if b = true then ("true" : Str) else "false").length : Nat) : Int)) hq1 (by rw [e5] at hq2; exact hq2)
              (.cons (.str _) (.cons (.bl _) .nil)) rfl (by simp only [cod]; show _ = _; rw [show (tl (if b = true then ("true" : Str) else "false")).length = (if b = true then ("true" : Str) else "false").length from rfl]; omega)
            rw [e5]
            exact e6
          · rw [S_of, decide_eq_false (by cases b <;> cases b1 <;> first | exact absurd rfl e | decide +kernel)]
            refine iteF ⟨rfl, ⟨_, rfl⟩, fun b2 e2 => ?_⟩
            cases e2
            have h1 := st2 b rfl
            cases b <;> cases b1 <;> first | exact absurd rfl e | (simp at hb2 h1 ⊢; omega)
        · rw [S_of, decide_eq_false (fun z => hv2 (by have z2 := V.str.inj z; rw [z2]; cases b1 <;> decide))]
          exact iteF ⟨rfl, ⟨_, rfl⟩, fun b2 e2 => by cases e2⟩
      · rintro σ' H2 ⟨rfl, ⟨nm, rfl⟩, st2⟩
        have ex1 : Ex H' (upd H' p (.tup [.str "true", .str "false"])) := Ex.new hp
        rcases hk2 with ⟨b, rfl, rfl⟩ | ⟨n, r, rfl, rfl, hv2⟩
        · have h1 := st2 b rfl
          cases b <;> simp at h1
        · cases hP with
          | get g1 g2 g3 g4 =>
            refine ⟨_, rfl, _, rfl, L, a, n, r, R, rfl, hl, ?_, g1, g2, g3, g4, hR, q.ex ex1⟩
            rw [hL]
            simp [cod, getCodes]
end
end RT
/-! reading an expression: the whole -/
namespace RT
open PySem PySem.Spec PyProof.Rows L2 Evl
section
variable {P : Program} {w : World} {K : PySem.W.Frag} {mg : Str → Option Value} {base : Heap} {k : Nat}
theorem tree_none (F : Df K mg "read_tree" ["text", "at", "level"] st_read_tree) : Cl P w K mg base 2 "read_tree" (spTree K 0) := by
  obtain ⟨f, fd, F, m, b⟩ := F.ex
  have no : ∀ vs H Q E, ¬ spTree K 0 vs H Q E := fun vs H Q E h => by
    obtain ⟨L, a, lev, t, R, _, _, _, _, _, h1, _⟩ := h
    have := dep_pos t
    omega
  exact ⟨f, fd, ["text", "at", "level"], ⟨fun vs H Q E h => absurd h (no vs H Q E), fun A outer s H args us vs Q E _ _ _ _ h => absurd h (no vs H Q E)⟩, m, F.kp, b⟩
theorem tree_all (T : Bi mg) (TK : Kx K mg) (TL : Kl K w mg) (F : Df K mg "read_tree" ["text", "at", "level"] st_read_tree) (FC : Df K mg "read_call" ["text", "at", "word", "level"] st_read_call)
    (cread_quoted : Cl P w K mg base 1 "read_quoted" (spQuoted K)) (cread_digits : Cl P w K mg base 1 "read_digits" (spDigits K)) (cread_variable : Cl P w K mg base 2 "read_variable" (spVariable K)) (cname_from : Cl P w K mg base 1 "name_from" spNameFrom) :
    ∀ n : Nat, Cl P w K mg base (2 * n + 2) "read_tree" (spTree K n)
  | 0 => tree_none F
  | n + 1 => ok_read_tree n T TL F cread_quoted cread_digits cread_variable cname_from (ok_read_call n T TK TL FC (tree_all T TK TL F FC cread_quoted cread_digits cread_variable cname_from n))
abbrev st_parse_expression : Stmt := (topS 30)
theorem sc_parse_expression : FnScope ["text", "found"] ["text"] (defScope st_parse_expression) := ⟨rfl, rfl, rfl, by decide +kernel, rfl, by decide +kernel, by decide +kernel⟩
def spParse (K : PySem.W.Frag) : Sp := fun vs H Q _ => ∃ t : Tree, vs = [.str (S (cod t))] ∧ (cod t).length ≤ 100000 ∧ Pr t ∧ dep t ≤ 8 ∧ ∀ v H', Ex H H' → TrAt K H' v t → Q v H'
theorem ok_parse_expression (T : Bi mg) (F : Df K mg "parse_expression" ["text"] st_parse_expression) (cread_tree : Cl P w K mg base 18 "read_tree" (spTree K 8)) : Cl P w K mg base 19 "parse_expression" (spParse K) := by
  refine F.ok (k := 18) sc_parse_expression (fun vs H Q E h => ?_) (fun f cdv A outer s H vs Q E hr h => ?_)
  · obtain ⟨t, rfl, _⟩ := h
    rfl
  obtain ⟨t, rfl, hl, hP, hd, q⟩ := h
  refine ⟨_, (pss_cons (ps_set (i := 1) sc_parse_expression.nd rfl (Or.inl rfl) (pe_ifExp (pt_val (pe_callB call_isi rfl T.isi (by decide +kernel) (pa_cons (pv 0) (pa_cons (pe_ty (by rfl) T.str "str") pa_nil)))) (pc cread_tree hr (by omega) rfl (pa_cons (pv 0) (pa_cons pe_int (pa_cons pe_int pa_nil)))) pe_non))
      (pss_one (ps_ret (pe_ifExp (PW.pt (pw_or (pt_cmpR op_isN (pv 1) pe_non (nomark _)) (pw_or1 (pt_cmpR op_ne (pe_ix ix_tup (pv 1) pe_int (fun _ _ => rfl)) (pe_callB call_len_str rfl T.len PySem.boot_len (pa_cons (pv 0) pa_nil)) (nomark _))))) pe_non (pe_ix ix_tup (pv 1) pe_int (fun _ _ => rfl)))))), ?_⟩
  refine ⟨_, rfl, _, _, _, _, true, rfl, .ty _, .base (.str _), kit_ty (by decide +kernel), true, rfl, ?_⟩
  refine iteT ?_
  refine ⟨_, rfl, cod t, 0, 1, t, [], rfl, hl, by simp, fun c hc => by simp at hc, hP, hd, by omega, fun p H1 e1 hp => ?_⟩
  obtain ⟨p', ys, e, hT, hA⟩ := Dp.tupInv hp
  cases e
  obtain ⟨v0, hv0, hd0⟩ := DpAll.get hA (i := 0) rfl
  obtain ⟨v1, hv1, hd1⟩ := DpAll.get hA (i := 1) rfl
  obtain rfl := Dp.intInv hd1
  refine ⟨_, rfl, rfl, _, rfl, ?_⟩
  rw [show decide (V.ref p = V.non) = false from rfl]
  refine ⟨_, rfl, p, _, _, _, rfl, rfl, hT, at_of (j := 1) rfl hv1, _, rfl, _, rfl, (by rw [S_len]; exact sz hl), rfl, _, rfl, ?_⟩
  rw [show decide (V.int ((0 + (cod t).length : Nat) : Int) = V.int (((S (cod t)).length : Nat) : Int)) = true from decide_eq_true (by rw [S_len, Nat.zero_add])]
  refine iteF ?_
  exact ⟨_, rfl, p, _, _, _, rfl, rfl, hT, at_of (j := 0) rfl hv0, q v0 H1 e1 hd0⟩
end
end RT
/-! same_values -/
namespace RT
open PySem PySem.Spec PyProof.Rows L2 Evl
def tyS : Th → String
  | .non => "NoneType"
  | .bl _ => "bool"
  | .int _ => "int"
  | .str _ => "str"
  | .lst _ => "tuple"
  | .rcd _ _ => "dict"
def isBl : Th → Bool
  | .bl _ => true
  | _ => false
def isTu : Th → Bool
  | .lst _ => true
  | _ => false
def isDi : Th → Bool
  | .rcd _ _ => true
  | _ => false
def isSt : Th → Bool
  | .str _ => true
  | _ => false
def isSc : Th → Bool
  | .str _ => true
  | .int _ => true
  | .bl _ => true
  | _ => false
theorem ThAt.ty {K : PySem.W.Frag} {H : Hp} {v : V} {t : Th} (h : ThAt H v t) : TyX K H v (.type (tyS t)) := by
  cases h with
  | non => exact .base .non
  | bl b => exact .base (.bl b)
  | int i => exact .base (.int i)
  | str x => exact .base (.str x)
  | lst e _ _ => exact .base (.tup e)
  | rcd e _ _ _ => exact .fDict e
theorem ThAt.isN {H : Hp} {v : V} {t : Th} (h : ThAt H v t) : decide (v = .non) = isNon t := by
  cases h <;> rfl
theorem kitBool {K : PySem.W.Frag} : ∀ t : Th, PySem.W.kitOne K (.type (tyS t)) (.type "bool") = some (isBl t)
  | .non => kit_ty (show kitB "NoneType" "bool" = some false by decide +kernel)
  | .bl _ => kit_ty (show kitB "bool" "bool" = some true by decide +kernel)
  | .int _ => kit_ty (show kitB "int" "bool" = some false by decide +kernel)
  | .str _ => kit_ty (show kitB "str" "bool" = some false by decide +kernel)
  | .lst _ => kit_ty (show kitB "tuple" "bool" = some false by decide +kernel)
  | .rcd _ _ => kit_ty (show kitB "dict" "bool" = some false by decide +kernel)
theorem kitTup {K : PySem.W.Frag} : ∀ t : Th, PySem.W.kitOne K (.type (tyS t)) (.type "tuple") = some (isTu t)
  | .non => kit_ty (show kitB "NoneType" "tuple" = some false by decide +kernel)
  | .bl _ => kit_ty (show kitB "bool" "tuple" = some false by decide +kernel)
  | .int _ => kit_ty (show kitB "int" "tuple" = some false by decide +kernel)
  | .str _ => kit_ty (show kitB "str" "tuple" = some false by decide +kernel)
  | .lst _ => kit_ty (show kitB "tuple" "tuple" = some true by decide +kernel)
  | .rcd _ _ => kit_ty (show kitB "dict" "tuple" = some false by decide +kernel)
theorem kitDict {K : PySem.W.Frag} : ∀ t : Th, PySem.W.kitOne K (.type (tyS t)) (.type "dict") = some (isDi t)
  | .non => kit_ty (show kitB "NoneType" "dict" = some false by decide +kernel)
  | .bl _ => kit_ty (show kitB "bool" "dict" = some false by decide +kernel)
  | .int _ => kit_ty (show kitB "int" "dict" = some false by decide +kernel)
  | .str _ => kit_ty (show kitB "str" "dict" = some false by decide +kernel)
  | .lst _ => kit_ty (show kitB "tuple" "dict" = some false by decide +kernel)
  | .rcd _ _ => kit_ty (show kitB "dict" "dict" = some true by decide +kernel)
theorem kitStr {K : PySem.W.Frag} : ∀ t : Th, PySem.W.kitOne K (.type (tyS t)) (.type "str") = some (isSt t)
  | .non => kit_ty (show kitB "NoneType" "str" = some false by decide +kernel)
  | .bl _ => kit_ty (show kitB "bool" "str" = some false by decide +kernel)
  | .int _ => kit_ty (show kitB "int" "str" = some false by decide +kernel)
  | .str _ => kit_ty (show kitB "str" "str" = some true by decide +kernel)
  | .lst _ => kit_ty (show kitB "tuple" "str" = some false by decide +kernel)
  | .rcd _ _ => kit_ty (show kitB "dict" "str" = some false by decide +kernel)
section
variable {K : PySem.W.Frag} {σ : L2.St} {H : Hp} {i : Nat} {x : V} {s T : String} {b : Bool}
theorem val_isi (hv : σ[i]? = some (some x)) (ty : TyX K H x (.type s)) (hk : PySem.W.kitOne K (.type s) (.type T) = some b) : Val (tCB (rIsi K) (tCons (tVar i) (tCons (tC (.ty T)) tNil))) σ H (.bl b) :=
  fun Q q => ⟨_, hv, _, _, _, _, _, rfl, .ty _, ty, hk, q⟩
theorem ans_isi (hv : σ[i]? = some (some x)) (ty : TyX K H x (.type s)) (hk : PySem.W.kitOne K (.type s) (.type T) = some b) : Ans (tB (tCB (rIsi K) (tCons (tVar i) (tCons (tC (.ty T)) tNil)))) σ H b := ans_val (val_isi hv ty hk)
theorem val_isN (hv : σ[i]? = some (some x)) : Val (tOp (fun x y H Q => y = .non ∧ Q (.bl (decide (x = .non))) H) (tVar i) (tC .non)) σ H (.bl (decide (x = .non))) := fun Q q => ⟨_, hv, rfl, q⟩
end
/-- two values that «the same» takes, of at most this depth -/
inductive Cmp : Nat → Th → Th → Prop where
  | nonL {d : Nat} (t : Th) : Cmp (d + 1) .non t
  | nonR {d : Nat} (t : Th) : Cmp (d + 1) t .non
  | bl {d : Nat} (a b : Bool) : Cmp (d + 1) (.bl a) (.bl b)
  | int {d : Nat} (a b : Int) : Cmp (d + 1) (.int a) (.int b)
  | str {d : Nat} (a b : Str) : Cmp (d + 1) (.str a) (.str b)
  | lst {d : Nat} {as bs : List Th} : as.length ≤ 60 → bs.length ≤ 60 → (∀ (i : Nat) a b, as[i]? = some a → bs[i]? = some b → Cmp d a b) → Cmp (d + 1) (.lst as) (.lst bs)
  | rcd {d : Nat} {ns : List Str} {as bs : List Th} : ns.length ≤ 60 → (∀ n ∈ ns, NmOk n) → ns.Nodup → (∀ (i : Nat) a b, as[i]? = some a → bs[i]? = some b → Cmp d a b) → Cmp (d + 1) (.rcd ns as) (.rcd ns bs)
structure SameOk (b : Bool) (t1 t2 : Th) : Prop where
  shal : b = true → Shal t1 t2
  yes : t1 = t2 → isSc t1 = true → b = true
theorem scal_of {H : Hp} {u v : V} {t1 t2 : Th} (h1 : ThAt H u t1) (h2 : ThAt H v t2) (g1 : isBl t1 = isBl t2) (g2 : isNon t1 = isNon t2) (hs : (isBl t1 || (isBl t2 || (isNon t1 || isNon t2))) = true) :
    scal u v = true ∧ (u = v → Shal t1 t2) ∧ (t1 = t2 → isSc t1 = true → u = v) := by
  cases h1 <;> cases h2 <;> simp_all [isBl, isNon, scal, Shal, isSc]
section
variable {P : Program} {w : World} {K : PySem.W.Frag} {mg : Str → Option Value} {base : Heap} {k : Nat}
def spSameV (d : Nat) : Sp := fun vs H Q _ => ∃ (u v : V) (t1 t2 : Th), vs = [u, v] ∧ ThAt H u t1 ∧ ThAt H v t2 ∧ Cmp d t1 t2 ∧ ∀ b H', Ex H H' → SameOk b t1 t2 → Q (.bl b) H'
theorem key_name {kvs : List (Key × V)} {ns : List Str} (hk : kvs.map (·.1) = ns.map Sum.inr) {i : Nat} {k : Key} {v : V} (h : kvs[i]? = some (k, v)) : ∃ n, ns[i]? = some n ∧ k = Sum.inr n := by
  have h1 : (kvs.map (·.1))[i]? = some k := by rw [List.getElem?_map, h]; rfl
  rw [hk, List.getElem?_map] at h1
  cases e : ns[i]? with
  | none => rw [e] at h1; cases h1
  | some n => rw [e] at h1; exact ⟨n, rfl, (Option.some.inj h1).symm⟩
/-- sorted([name for name in d]), a frozen dict of names -/
theorem sorted_keys {σ : L2.St} {i j : Nat} {a : Addr} {o : Obj} {kvs : List (Key × V)} {ns : List Str} {H : Hp} {Q : VK} (hσ : σ[i]? = some (some (.ref a))) (hj : j < σ.length) (he : H a = some (.frz o (.dK kvs))) (hk : kvs.map (·.1) = ns.map Sum.inr) (hl : ns.length < 64)
    (hq : ∀ (ys : List Str) p H', ys.Perm ns → Ex H H' → H' p = some (.lst (ys.map V.str)) → Q (.ref p) H') : tCB (rSortedS K) (tCons (tLc (iKeys (tVar i)) (gName j) tYes (tVar j) [j]) tNil) σ H Q := by
  have hlen : kvs.length = ns.length := by
    have := congrArg List.length hk
    simpa using this
  refine ⟨_, hσ, a, o, rfl, .inl ⟨kvs, he, fun D hD => lc_gen walk_keys (fun H' => Ex H H') (fun i v _ => ∃ n, ns[i]? = some n ∧ v = .str n) (Ex.new hD) (fun H' o e => e.mut hD) (fun H' e => e _ _ he) (fun i v H' H'' h _ => h) (szl (by omega)) ?_ ?_⟩⟩
  · rintro i x H' H'' C hi fr hacc ⟨rfl, k, v, hkv, rfl⟩ kk
    obtain ⟨n, hn, rfl⟩ := key_name hk hkv
    refine ⟨?_, _, ?_, kk _ _ fr (Im.refl _) rfl ⟨n, hn, rfl⟩⟩
    · show ((σ.set j none).set j (some (.str n))).set j none = σ.set j none
      rw [List.set_set, List.set_set]
    · show ((σ.set j none).set j (some (.str n)))[j]? = some (some (.str n))
      rw [List.getElem?_set_self (by simpa using hj)]
  · intro H' acc fr hacc hlen2 hall
    have e : acc = ns.map V.str := strs_of (by omega) hall
    subst e
    exact ⟨D, ns, rfl, SqL.of hacc, hl, fun ys p hp _ hf => hq ys p _ hp (fr.trans (Ex.new hf)) upd_same⟩
theorem shaped_strs {ns : List Str} (h : ∀ n ∈ ns, NmOk n) : SeqAt.shaped (.list (ns.map PyData.str)) = true := by
  have h1 : ∀ ns : List Str, (∀ n ∈ ns, NmOk n) → PyData.canLayAll0 (ns.map PyData.str) = true ∧ PyData.depthAll (ns.map PyData.str) = 0 := by
    intro ns
    induction ns with
    | nil => intro _; exact ⟨rfl, rfl⟩
    | cons n r ih =>
      intro h
      obtain ⟨a, b⟩ := ih fun m hm => h m (by simp [hm])
      have hn : PyData.strOk n = true := by
        unfold PyData.strOk
        rw [← Array.all_toList, List.all_eq_true]
        intro c hc
        have := (h n (by simp)).low c hc
        simp [low] at this ⊢
        omega
      refine ⟨?_, ?_⟩
      · simp only [List.map_cons, PyData.canLayAll0, PyData.canLay0, hn, a]
        rfl
      · simp only [List.map_cons, PyData.depthAll, PyData.depth, b]
        rfl
  obtain ⟨a, b⟩ := h1 ns h
  unfold SeqAt.shaped
  simp only [PyData.canLay0, PyData.depth, a, b]
  decide
abbrev st_same_values : Stmt := (topS 8)
theorem sc_same_values : FnScope ["one", "other", "x", "y", "name"] ["one", "other"] (defScope st_same_values) := ⟨rfl, rfl, rfl, by decide +kernel, rfl, by decide +kernel, by decide +kernel⟩
theorem same_none (F : Df K mg "same_values" ["one", "other"] st_same_values) : Cl P w K mg base 0 "same_values" (spSameV 0) := by
  obtain ⟨f, fd, F, m, b⟩ := F.ex
  have no : ∀ vs H Q E, ¬ spSameV 0 vs H Q E := fun vs H Q E h => by
    obtain ⟨u, v, t1, t2, _, _, _, h1, _⟩ := h
    cases h1
  exact ⟨f, fd, ["one", "other"], ⟨fun vs H Q E h => absurd h (no vs H Q E), fun A outer s H args us vs Q E _ _ _ _ h => absurd h (no vs H Q E)⟩, m, F.kp, b⟩
theorem ok_same_values (d : Nat) (T : Bi mg) (F : Df K mg "same_values" ["one", "other"] st_same_values) (csame_values : Cl P w K mg base d "same_values" (spSameV d)) : Cl P w K mg base (d + 1) "same_values" (spSameV (d + 1)) := by
  refine F.ok sc_same_values (fun vs H Q E h => ?_) (fun f cdv A outer s H vs Q E hr h => ?_)
  · obtain ⟨u, v, t1, t2, rfl, _⟩ := h
    rfl
  obtain ⟨u, v, t1, t2, rfl, h1, h2, hC, q⟩ := h
  refine ⟨_, (pss_cons (ps_if (PW.pt (pw_or (pt_val (pe_callB call_isi rfl T.isi (by decide +kernel) (pa_cons (pv 0) (pa_cons (pe_ty (by rfl) T.bool "bool") pa_nil)))) (pw_or (pt_val (pe_callB call_isi rfl T.isi (by decide +kernel) (pa_cons (pv 1) (pa_cons (pe_ty (by rfl) T.bool "bool") pa_nil)))) (pw_or (pt_cmpR op_isN (pv 0) pe_non (nomark _)) (pw_or1 (pt_cmpR op_isN (pv 1) pe_non (nomark _))))))) (pss_one (ps_ret (pe_and (pe_cmpR op_eq (pe_callB call_isi rfl T.isi (by decide +kernel) (pa_cons (pv 0) (pa_cons (pe_ty (by rfl) T.bool "bool") pa_nil))) (pe_callB call_isi rfl T.isi (by decide +kernel) (pa_cons (pv 1) (pa_cons (pe_ty (by rfl) T.bool "bool") pa_nil))) (nomark _)) (pe_and (pe_cmpR op_eq (pe_cmpR op_isN (pv 0) pe_non (nomark _)) (pe_cmpR op_isN (pv 1) pe_non (nomark _)) (nomark _)) (pe_one (pe_cmpR op_eq (pv 0) (pv 1) (nomark _))))))) pss_nil)
      (pss_cons (ps_if (PW.pt (pw_and (pt_val (pe_callB call_isi rfl T.isi (by decide +kernel) (pa_cons (pv 0) (pa_cons (pe_ty (by rfl) T.tup "tuple") pa_nil)))) (pw_and1 (pt_val (pe_callB call_isi rfl T.isi (by decide +kernel) (pa_cons (pv 1) (pa_cons (pe_ty (by rfl) T.tup "tuple") pa_nil))))))) (pss_one (ps_ret (pe_and (pe_cmpR op_eq (pe_callB call_len_seq rfl T.len PySem.boot_len (pa_cons (pv 0) pa_nil)) (pe_callB call_len_seq rfl T.len PySem.boot_len (pa_cons (pv 1) pa_nil)) (nomark _)) (pe_one (pe_callB (cr_all rfl) rfl T.all (by decide +kernel) (pa_cons (pe_lc (own := [("x", 2), ("y", 3)]) (g := gTup K 2 (gCons (gName 2) (gCons (gName 3) gNil))) (tt := tYes) rfl sc_same_values.nd (RZ.pi_zipA rfl T.zip (pa_cons (pv 0) (pa_cons (pv 1) pa_nil))) (blkOk_by (own := [("x", 2), ("y", 3)]) (N := ["one", "other", "x", "y", "name"]) (sc := defScope st_same_values) (by decide +kernel)) (fun _ _ _ _ _ => (pg_tup rfl (pgs_cons (pg_name (i := 2) sc_same_values.nd rfl (Or.inl rfl)) (pgs_cons (pg_name (i := 3) sc_same_values.nd rfl (Or.inl rfl)) pgs_nil)))) (fun _ _ _ _ _ => pts_nil) (fun _ _ _ _ _ => (pc csame_values hr (by omega) rfl (pa_cons (pv 2) (pa_cons (pv 3) pa_nil))))) pa_nil)))))) pss_nil)
      (pss_cons (ps_if (PW.pt (pw_and (pt_val (pe_callB call_isi rfl T.isi (by decide +kernel) (pa_cons (pv 0) (pa_cons (pe_ty (by rfl) T.dict "dict") pa_nil)))) (pw_and1 (pt_val (pe_callB call_isi rfl T.isi (by decide +kernel) (pa_cons (pv 1) (pa_cons (pe_ty (by rfl) T.dict "dict") pa_nil))))))) (pss_cons (ps_if (pt_cmpR (op_neD hr.units) (pe_callB cr_sortedS rfl T.srt (by decide +kernel) (pa_cons (pe_lc (own := [("name", 4)]) (g := gName 4) (tt := tYes) rfl sc_same_values.nd (pi_keys (pv 0)) (blkOk_by (own := [("name", 4)]) (N := ["one", "other", "x", "y", "name"]) (sc := defScope st_same_values) (by decide +kernel)) (fun _ _ _ _ _ => (pg_name (i := 4) sc_same_values.nd rfl (Or.inl rfl))) (fun _ _ _ _ _ => pts_nil) (fun _ _ _ _ _ => (pv 4))) pa_nil)) (pe_callB cr_sortedS rfl T.srt (by decide +kernel) (pa_cons (pe_lc (own := [("name", 4)]) (g := gName 4) (tt := tYes) rfl sc_same_values.nd (pi_keys (pv 1)) (blkOk_by (own := [("name", 4)]) (N := ["one", "other", "x", "y", "name"]) (sc := defScope st_same_values) (by decide +kernel)) (fun _ _ _ _ _ => (pg_name (i := 4) sc_same_values.nd rfl (Or.inl rfl))) (fun _ _ _ _ _ => pts_nil) (fun _ _ _ _ _ => (pv 4))) pa_nil)) (nomark _)) (pss_one (ps_ret pe_bl)) pss_nil)
      (pss_one (ps_ret (pe_callB (cr_all rfl) rfl T.all (by decide +kernel) (pa_cons (pe_lc (own := [("name", 4)]) (g := gName 4) (tt := tYes) rfl sc_same_values.nd (pi_keys (pv 0)) (blkOk_by (own := [("name", 4)]) (N := ["one", "other", "x", "y", "name"]) (sc := defScope st_same_values) (by decide +kernel)) (fun _ _ _ _ _ => (pg_name (i := 4) sc_same_values.nd rfl (Or.inl rfl))) (fun _ _ _ _ _ => pts_nil) (fun _ _ _ _ _ => (pc csame_values hr (by omega) rfl (pa_cons (pe_dget (hu_of hr) (pv 0) (pv 4) (fun _ _ => rfl)) (pa_cons (pe_dget (hu_of hr) (pv 1) (pv 4) (fun _ _ => rfl)) pa_nil))))) pa_nil))))) pss_nil)
      (pss_one (ps_ret (pe_and (pe_cmpR op_eq (pe_callB call_isi rfl T.isi (by decide +kernel) (pa_cons (pv 0) (pa_cons (pe_ty (by rfl) T.str "str") pa_nil))) (pe_callB call_isi rfl T.isi (by decide +kernel) (pa_cons (pv 1) (pa_cons (pe_ty (by rfl) T.str "str") pa_nil))) (nomark _)) (pe_one (pe_cmpR op_eq (pv 0) (pv 1) (nomark _))))))))), ?_⟩
  have sp : ∀ (σ : L2.St) (tb : TS) (D : Ends), σ[0]? = some (some u) → σ[1]? = some (some v) → D.rt = Q → (isBl t1 || (isBl t2 || (isNon t1 || isNon t2))) = true →
      tRet (tAndV (tOp rEq (tCB (rIsi K) (tCons (tVar 0) (tCons (tC (.ty "bool")) tNil))) (tCB (rIsi K) (tCons (tVar 1) (tCons (tC (.ty "bool")) tNil))))
        (tAndV (tOp rEq (tOp (fun x y H Q => y = .non ∧ Q (.bl (decide (x = .non))) H) (tVar 0) (tC .non)) (tOp (fun x y H Q => y = .non ∧ Q (.bl (decide (x = .non))) H) (tVar 1) (tC .non)))
          (tOp rEq (tVar 0) (tVar 1)))) D σ H := by
    intro σ tb D e0 e1 eD hs
    have hb : ∀ b, SameOk b t1 t2 → Q (.bl b) H := fun b => q b H (Ex.refl _)
    show tAndV _ _ σ H D.rt
    rw [eD]
    by_cases hall : (decide (V.bl (isBl t1) = V.bl (isBl t2)) && decide (V.bl (decide (u = .non)) = V.bl (decide (v = .non)))) = true
    · simp only [Bool.and_eq_true, decide_eq_true_eq, V.bl.injEq] at hall
      obtain ⟨g1, g2⟩ := hall
      have g3 : isNon t1 = isNon t2 := by rw [← h1.isN, ← h2.isN]; exact g2
      obtain ⟨hsc, hs1, hs2⟩ := scal_of h1 h2 g1 g3 hs
      refine val_andV (x := decide (V.bl (isBl t1) = V.bl (isBl t2))) (y := decide (V.bl (decide (u = .non)) = V.bl (decide (v = .non))) && decide (u = v)) (val_eq (val_isi e0 h1.ty (kitBool t1)) (val_isi e1 h2.ty (kitBool t2)) rfl)
        (fun _ => val_andV (val_eq (val_isN e0) (val_isN e1) rfl) fun _ => val_eq (val_var e0) (val_var e1) hsc) Q ?_
      rw [decide_eq_true (congrArg V.bl g1), decide_eq_true (congrArg V.bl g2), Bool.true_and, Bool.true_and]
      exact hb _ ⟨fun e => hs1 (of_decide_eq_true e), fun e hc => decide_eq_true (hs2 e hc)⟩
    · have hno : (decide (V.bl (isBl t1) = V.bl (isBl t2)) && decide (V.bl (decide (u = .non)) = V.bl (decide (v = .non)))) = false := by simpa using hall
      have hne : SameOk false t1 t2 := ⟨fun e => (by cases e), fun e _ => by
        subst e
        exact absurd (show (decide (V.bl (isBl t1) = V.bl (isBl t1)) && decide (V.bl (decide (u = .non)) = V.bl (decide (v = .non)))) = true by
          rw [h1.isN, h2.isN]
          simp) hall⟩
      refine val_eq (val_isi e0 h1.ty (kitBool t1)) (val_isi e1 h2.ty (kitBool t2)) rfl _ ⟨_, rfl, ?_⟩
      by_cases g1 : V.bl (isBl t1) = V.bl (isBl t2)
      · rw [decide_eq_true g1, Bool.true_and] at hno
        rw [decide_eq_true g1, if_pos rfl]
        refine val_eq (val_isN e0) (val_isN e1) rfl _ ⟨_, rfl, ?_⟩
        rw [hno, if_neg Bool.false_ne_true]
        exact hb _ hne
      · rw [decide_eq_false g1, if_neg Bool.false_ne_true]
        exact hb _ hne
  by_cases hs : (isBl t1 || (isBl t2 || (isNon t1 || isNon t2))) = true
  · refine st_ifb (b := (isBl t1 || (isBl t2 || (isNon t1 || isNon t2)))) (ans_or2 (ans_isi rfl h1.ty (kitBool t1)) (ans_or2 (ans_isi rfl h2.ty (kitBool t2)) (ans_or2 (ans_test (by rw [← h1.isN]; exact val_isN rfl)) (ans_test (by rw [← h2.isN]; exact val_isN rfl))))) ?_
    rw [hs]
    exact sp _ tNext _ rfl rfl rfl hs
  have hs' : (isBl t1 || (isBl t2 || (isNon t1 || isNon t2))) = false := by simpa using hs
  refine st_ifb (b := (isBl t1 || (isBl t2 || (isNon t1 || isNon t2)))) (ans_or2 (ans_isi rfl h1.ty (kitBool t1)) (ans_or2 (ans_isi rfl h2.ty (kitBool t2)) (ans_or2 (ans_test (by rw [← h1.isN]; exact val_isN rfl)) (ans_test (by rw [← h2.isN]; exact val_isN rfl))))) ?_
  rw [hs']
  refine iteF ?_
  refine st_ifb (b := isTu t1 && isTu t2) (ans_and2 (ans_isi rfl h1.ty (kitTup t1)) (ans_isi rfl h2.ty (kitTup t2))) ?_
  cases hC with
  | nonL t => simp [isNon] at hs'
  | nonR t => simp [isNon] at hs'
  | bl a b => simp [isBl] at hs'
  | int a b =>
    cases h1
    cases h2
    refine iteF ?_
    refine st_ifb (b := false && false) (ans_and2 (ans_isi rfl (.base (.int a)) (kitDict (.int a))) (ans_isi rfl (.base (.int b)) (kitDict (.int b)))) ?_
    refine iteF ?_
    refine val_andV (x := decide (V.bl false = V.bl false)) (y := decide (V.int a = V.int b)) (val_eq (val_isi rfl (.base (.int a)) (kitStr (.int a))) (val_isi rfl (.base (.int b)) (kitStr (.int b))) rfl) (fun _ => val_eq (val_var rfl) (val_var rfl) rfl) Q ?_
    rw [decide_eq_true (show V.bl false = V.bl false from rfl), Bool.true_and]
    refine q _ H (Ex.refl _) ⟨fun e => V.int.inj (of_decide_eq_true e), fun e _ => decide_eq_true ?_⟩
    cases e
    rfl
  | str a b =>
    cases h1
    cases h2
    refine iteF ?_
    refine st_ifb (b := false && false) (ans_and2 (ans_isi rfl (.base (.str a)) (kitDict (.str a))) (ans_isi rfl (.base (.str b)) (kitDict (.str b)))) ?_
    refine iteF ?_
    refine val_andV (x := decide (V.bl true = V.bl true)) (y := decide (V.str a = V.str b)) (val_eq (val_isi rfl (.base (.str a)) (kitStr (.str a))) (val_isi rfl (.base (.str b)) (kitStr (.str b))) rfl) (fun _ => val_eq (val_var rfl) (val_var rfl) rfl) Q ?_
    rw [decide_eq_true (show V.bl true = V.bl true from rfl), Bool.true_and]
    refine q _ H (Ex.refl _) ⟨fun e => V.str.inj (of_decide_eq_true e), fun e _ => decide_eq_true ?_⟩
    cases e
    rfl
  | @lst _ as bs hla hlb hcmp =>
    cases h1 with
    | @lst a xs _ e1 l1 f1 =>
    cases h2 with
    | @lst b ys _ e2 l2 f2 =>
    refine iteT ?_
    refine ⟨_, rfl, a, _, rfl, .inr (SqT.of e1), _, rfl, b, _, rfl, .inr (SqT.of e2), rfl, _, rfl, ?_⟩
    have hno : ∀ c, (c = true → as.length = bs.length) → SameOk c (.lst as) (.lst bs) := fun c hc => ⟨fun e => hc e, fun _ z => by simp [isSc] at z⟩
    by_cases hlen : V.int ((xs.length : Nat) : Int) = V.int ((ys.length : Nat) : Int)
    · have hlen2 : xs.length = ys.length := by have := V.int.inj hlen; omega
      rw [decide_eq_true hlen, if_pos rfl]
      refine ⟨_, rfl, _, rfl, a, b, xs, ys, rfl, .inr ⟨SqT.of e1, SqT.of e2, fun D hD => lc_gen (walk_zipT rfl) (fun H' => Ex H H') (fun i v _ => ∃ b : Bool, v = .bl b) (Ex.new hD) (fun H' o e => e.mut hD) (fun H' e => ⟨SqT.of (e _ _ e1), SqT.of (e _ _ e2)⟩)
        (fun i v H' H'' h _ => h) (szl (by omega)) ?_ ?_⟩⟩
      · rintro i x H' H'' C hi fr hacc ⟨T1, x1, y1, rfl, hT, rfl, hx, hy⟩ kk
        obtain ⟨ta, hta⟩ : ∃ ta, as[i]? = some ta := ⟨_, List.getElem?_eq_getElem (by have := (List.getElem?_eq_some_iff.mp hx).1; omega)⟩
        obtain ⟨tb, htb⟩ : ∃ tb, bs[i]? = some tb := ⟨_, List.getElem?_eq_getElem (by have := (List.getElem?_eq_some_iff.mp hy).1; omega)⟩
        have ex1 : Ex H' (upd H' T1 (.tup [x1, y1])) := Ex.new hT
        refine ⟨T1, _, rfl, SqT.of upd_same, rfl, _, _, rfl, _, _, rfl, rfl, rfl, _, rfl, _, rfl, x1, y1, ta, tb, rfl, (f1 i x1 ta hx hta).im (Im.ex (fr.trans ex1)), (f2 i y1 tb hy htb).im (Im.ex (fr.trans ex1)), hcmp i ta tb hta htb, fun bb H4 e4 _ => ?_⟩
        exact kk _ _ (fr.trans (ex1.trans e4)) (Im.ex (ex1.trans e4)) (ex_at (ex1.trans e4) hacc) ⟨bb, rfl⟩
      · intro H' acc fr hacc _ hall
        obtain ⟨bl, rfl⟩ := bools_ex hall
        exact ⟨D, bl, rfl, SqL.of hacc, q _ H' fr (hno _ fun _ => by omega)⟩
    · rw [decide_eq_false hlen, if_neg Bool.false_ne_true]
      exact q _ H (Ex.refl _) (hno _ fun e => by cases e)
  | @rcd _ ns as bs hln hnm hnd hcmp =>
    cases h1 with
    | @rcd a o1 ks1 _ _ e1 k1 l1 f1 =>
    cases h2 with
    | @rcd b o2 ks2 _ _ e2 k2 l2 f2 =>
    have hno : ∀ c, SameOk c (.rcd ns as) (.rcd ns bs) := fun c => ⟨fun _ => trivial, fun _ z => by simp [isSc] at z⟩
    have hl1 : ks1.length = ns.length := by simpa using congrArg List.length k1
    have hl2 : ks2.length = ns.length := by simpa using congrArg List.length k2
    refine iteF ?_
    refine st_ifb (b := true && true) (ans_and2 (ans_isi rfl (.fDict e1) (kitDict (.rcd ns as))) (ans_isi rfl (.fDict e2) (kitDict (.rcd ns bs)))) ?_
    refine iteT ?_
    refine sorted_keys rfl (show (4 : Nat) < 5 by decide) e1 k1 (by omega) fun y1 p1 H1 perm1 ex1 hp1 => ?_
    refine sorted_keys rfl (show (4 : Nat) < 5 by decide) (ex1 _ _ e2) k2 (by omega) fun y2 p2 H2 perm2 ex2 hp2 => ?_
    refine ⟨_, _, .lst (SqL.of (ex2 _ _ hp1)) (DpAll.strs _), .lst (SqL.of hp2) (DpAll.strs _), shaped_strs fun n hn => hnm n (perm1.mem_iff.mp hn), shaped_strs fun n hn => hnm n (perm2.mem_iff.mp hn), _, rfl, ?_⟩
    have exH : Ex H H2 := ex1.trans ex2
    refine ite2 (fun _ => q false H2 exH (hno _)) (fun _ => ?_)
    refine ⟨_, rfl, a, o1, rfl, .inl ⟨ks1, exH _ _ e1, fun D hD => lc_gen walk_keys (fun H' => Ex H2 H') (fun i v _ => ∃ b : Bool, v = .bl b) (Ex.new hD) (fun H' o e => e.mut hD) (fun H' e => e _ _ (exH _ _ e1)) (fun i v H' H'' h _ => h) (szl (by omega)) ?_ ?_⟩⟩
    · rintro i x H' H'' C hi fr hacc ⟨rfl, k, v1, hkv, rfl⟩ kk
      obtain ⟨n, hn, rfl⟩ := key_name k1 hkv
      have hin : i < ns.length := (List.getElem?_eq_some_iff.mp hn).1
      obtain ⟨⟨k', v2⟩, hkv2⟩ : ∃ p, ks2[i]? = some p := ⟨_, List.getElem?_eq_getElem (by omega)⟩
      obtain ⟨n', hn', rfl⟩ := key_name k2 hkv2
      rw [hn] at hn'
      cases hn'
      have g1 : (ks1.map (·.2))[i]? = some v1 := by rw [List.getElem?_map, hkv]; rfl
      have g2 : (ks2.map (·.2))[i]? = some v2 := by rw [List.getElem?_map, hkv2]; rfl
      obtain ⟨ta, hta⟩ : ∃ ta, as[i]? = some ta := ⟨_, List.getElem?_eq_getElem (by omega)⟩
      obtain ⟨tb, htb⟩ : ∃ tb, bs[i]? = some tb := ⟨_, List.getElem?_eq_getElem (by omega)⟩
      have hv1 : valV ks1 (Sum.inr n) = some v1 := by rw [valV_field k1]; exact at_field hnd hn g1
      have hv2 : valV ks2 (Sum.inr n) = some v2 := by rw [valV_field k2]; exact at_field hnd hn g2
      have fr0 := exH.trans fr
      refine ⟨rfl, _, rfl, _, rfl, a, v1, rfl, .inl ⟨ks1, _, .inr ⟨o1, fr0 _ _ e1⟩, rfl, hv1.symm⟩, _, rfl, _, rfl, b, v2, rfl, .inl ⟨ks2, _, .inr ⟨o2, fr0 _ _ e2⟩, rfl, hv2.symm⟩, v1, v2, ta, tb, rfl, (f1 i v1 ta g1 hta).im (Im.ex fr0), (f2 i v2 tb g2 htb).im (Im.ex fr0),
        hcmp i ta tb hta htb, fun bb H4 e4 _ => ?_⟩
      exact kk _ _ (fr.trans e4) (Im.ex e4) (ex_at e4 hacc) ⟨bb, rfl⟩
    · intro H' acc fr hacc _ hall
      obtain ⟨bl, rfl⟩ := bools_ex hall
      exact ⟨D, bl, rfl, SqL.of hacc, q _ H' (exH.trans fr) (hno _)⟩
theorem same_all (T : Bi mg) (F : Df K mg "same_values" ["one", "other"] st_same_values) : ∀ d : Nat, Cl P w K mg base d "same_values" (spSameV d)
  | 0 => same_none F
  | d + 1 => ok_same_values d T F (same_all T F d)
end
end RT
/-! has_level, is_value, same -/
namespace RT
open PySem PySem.Spec PyProof.Rows L2 Evl
/-- a value of at most this level -/
inductive Lev : Nat → Th → Prop where
  | non {d : Nat} : Lev d .non
  | bl {d : Nat} (b : Bool) : Lev d (.bl b)
  | int {d : Nat} (i : Int) : Lev d (.int i)
  | str {d : Nat} (x : Str) : Lev d (.str x)
  | lst {d : Nat} {ts : List Th} : ts.length ≤ 60 → (∀ t ∈ ts, Lev d t) → Lev (d + 1) (.lst ts)
  | rcd {d : Nat} {ns : List Str} {ts : List Th} : ns.length ≤ 60 → (∀ n ∈ ns, NmOk n) → ns.Nodup → (∀ t ∈ ts, Lev d t) → Lev (d + 1) (.rcd ns ts)
def isIn : Th → Bool
  | .int _ => true
  | .bl _ => true
  | _ => false
theorem kitInt {K : PySem.W.Frag} : ∀ t : Th, PySem.W.kitOne K (.type (tyS t)) (.type "int") = some (isIn t)
  | .non => kit_ty (show kitB "NoneType" "int" = some false by decide +kernel)
  | .bl _ => kit_ty (show kitB "bool" "int" = some true by decide +kernel)
  | .int _ => kit_ty (show kitB "int" "int" = some true by decide +kernel)
  | .str _ => kit_ty (show kitB "str" "int" = some false by decide +kernel)
  | .lst _ => kit_ty (show kitB "tuple" "int" = some false by decide +kernel)
  | .rcd _ _ => kit_ty (show kitB "dict" "int" = some false by decide +kernel)
theorem kitSI {K : PySem.W.Frag} (t : Th) : PySem.W.kitAny K (.type (tyS t)) [.type "str", .type "int"] = some (isSt t || isIn t) :=
  kitAny_cons (kitStr t) (fun h => kitAny_cons (kitInt t) (fun h2 => by rw [h, h2]; exact kitAny_nil) (fun h2 => by rw [h, h2]; rfl)) (fun h => by rw [h]; rfl)
section
variable {P : Program} {w : World} {K : PySem.W.Frag} {mg : Str → Option Value} {base : Heap} {k : Nat}
theorem bools_true {acc : List V} (h : ∀ (i : Nat) v, acc[i]? = some v → v = .bl true) : ∃ bs : List Bool, acc = bs.map V.bl ∧ bs.all id = true := by
  refine ⟨List.replicate acc.length true, ?_, by simp⟩
  apply List.ext_getElem?
  intro i
  by_cases hi : i < acc.length
  · have h1 : acc[i]? = some acc[i] := List.getElem?_eq_getElem hi
    rw [h1, h i _ h1]
    simp [hi]
  · rw [List.getElem?_eq_none (by omega), List.getElem?_eq_none (by simp; omega)]
def spHas (n : Nat) : Sp := fun vs H Q _ => ∃ (d : Nat) (u : V) (t : Th), vs = [u, .int (d : Int)] ∧ d < n ∧ ThAt H u t ∧ Lev d t ∧ ∀ H', Ex H H' → Q (.bl true) H'
abbrev st_has_level : Stmt := (topS 7)
theorem sc_has_level : FnScope ["thing", "most", "part", "name"] ["thing", "most"] (defScope st_has_level) := ⟨rfl, rfl, rfl, by decide +kernel, rfl, by decide +kernel, by decide +kernel⟩
theorem has_none (F : Df K mg "has_level" ["thing", "most"] st_has_level) : Cl P w K mg base 1 "has_level" (spHas 0) := by
  obtain ⟨f, fd, F, m, b⟩ := F.ex
  have no : ∀ vs H Q E, ¬ spHas 0 vs H Q E := fun vs H Q E h => by
    obtain ⟨d, u, t, _, h1, _⟩ := h
    omega
  exact ⟨f, fd, ["thing", "most"], ⟨fun vs H Q E h => absurd h (no vs H Q E), fun A outer s H args us vs Q E _ _ _ _ h => absurd h (no vs H Q E)⟩, m, F.kp, b⟩
theorem ok_has_level (n : Nat) (T : Bi mg) (F : Df K mg "has_level" ["thing", "most"] st_has_level) (cis_name : Cl P w K mg base 1 "is_name" spIsName) (chas_level : Cl P w K mg base (n + 1) "has_level" (spHas n)) : Cl P w K mg base (n + 2) "has_level" (spHas (n + 1)) := by
  refine F.ok (k := n + 1) sc_has_level (fun vs H Q E h => ?_) (fun f cdv A outer s H vs Q E hr h => ?_)
  · obtain ⟨d, u, t, rfl, _⟩ := h
    rfl
  obtain ⟨d, u, t, rfl, hdn, h1, hL, q⟩ := h
  refine ⟨_, (pss_cons (ps_if (PW.pt (pw_or (pt_cmpR op_isN (pv 0) pe_non (nomark _)) (pw_or1 (pt_val (pe_callB call_isiT rfl T.isi (by decide +kernel) (pa_cons (pv 0) (pa_cons (pe_tup (pa_cons (pe_ty (by rfl) T.str "str") (pa_cons (pe_ty (by rfl) T.int "int") pa_nil))) pa_nil))))))) (pss_one (ps_ret pe_bl)) pss_nil)
      (pss_cons (ps_if (pt_val (pe_callB call_isi rfl T.isi (by decide +kernel) (pa_cons (pv 0) (pa_cons (pe_ty (by rfl) T.tup "tuple") pa_nil)))) (pss_one (ps_ret (pe_and (pe_cmpR op_gt (pv 1) pe_int (nomark _)) (pe_and (pe_cmpR op_le (pe_callB call_len_seq rfl T.len PySem.boot_len (pa_cons (pv 0) pa_nil)) (C8.pe_gc rfl T.elems) (nomark _)) (pe_one (pe_callB (cr_all rfl) rfl T.all (by decide +kernel) (pa_cons (pe_lc (own := [("part", 2)]) (g := gName 2) (tt := tYes) rfl sc_has_level.nd (pi_tup (pv 0)) (blkOk_by (own := [("part", 2)]) (N := ["thing", "most", "part", "name"]) (sc := defScope st_has_level) (by decide +kernel)) (fun _ _ _ _ _ => (pg_name (i := 2) sc_has_level.nd rfl (Or.inl rfl))) (fun _ _ _ _ _ => pts_nil) (fun _ _ _ _ _ => (pc chas_level hr (by omega) rfl (pa_cons (pv 2) (pa_cons (pe_op op_sub (pv 1) pe_int) pa_nil))))) pa_nil))))))) pss_nil)
      (pss_cons (ps_if (PW.pt (pw_or (pt_not (pt_val (pe_callB call_isi rfl T.isi (by decide +kernel) (pa_cons (pv 0) (pa_cons (pe_ty (by rfl) T.dict "dict") pa_nil))))) (pw_or1 (pt_cmpR op_eq (pv 1) pe_int (nomark _))))) (pss_one (ps_ret pe_bl)) pss_nil)
      (pss_one (ps_ret (pe_callB (cr_all rfl) rfl T.all (by decide +kernel) (pa_cons (pe_lc (own := [("name", 3)]) (g := gName 3) (tt := tYes) rfl sc_has_level.nd (pi_keys (pv 0)) (blkOk_by (own := [("name", 3)]) (N := ["thing", "most", "part", "name"]) (sc := defScope st_has_level) (by decide +kernel)) (fun _ _ _ _ _ => (pg_name (i := 3) sc_has_level.nd rfl (Or.inl rfl))) (fun _ _ _ _ _ => pts_nil) (fun _ _ _ _ _ => (pe_and (pc cis_name hr (by omega) rfl (pa_cons (pv 3) pa_nil)) (pe_one (pc chas_level hr (by omega) rfl (pa_cons (pe_dget (hu_of hr) (pv 0) (pv 3) (fun _ _ => rfl)) (pa_cons (pe_op op_sub (pv 1) pe_int) pa_nil))))))) pa_nil))))))), ?_⟩
  refine ⟨_, rfl, rfl, _, rfl, ?_⟩
  rw [h1.isN]
  have flat : isNon t = false → (isSt t || isIn t) = false → (∃ d', d = d' + 1) ∧ ((∃ ts, t = .lst ts) ∨ ∃ ns ts, t = .rcd ns ts) := by
    intro g1 g2
    cases hL with
    | lst => exact ⟨⟨_, rfl⟩, .inl ⟨_, rfl⟩⟩
    | rcd => exact ⟨⟨_, rfl⟩, .inr ⟨_, _, rfl⟩⟩
    | _ => simp [isNon, isSt, isIn] at g1 g2
  cases hn : isNon t with
  | true => exact q H (Ex.refl _)
  | false =>
  refine ⟨_, rfl, by show 2 ≤ sizeLine; decide, fun p hp => ⟨_, p, _, _, _, _, rfl, upd_same, .cons (.ty _) (.cons (.ty _) .nil), (h1.im (Im.new hp)).ty, kitSI t, _, rfl, ?_⟩⟩
  have ex1 : Ex H (upd H p (.tup [.ty "str", .ty "int"])) := Ex.new hp
  cases hsi : (isSt t || isIn t) with
  | true => exact q _ ex1
  | false =>
  refine iteF ?_
  have h2 := h1.im (Im.ex ex1)
  obtain ⟨⟨d', rfl⟩, hk⟩ := flat hn hsi
  have hd1 : (((d' + 1 : Nat) : Int)) - 1 = ((d' : Nat) : Int) := by omega
  refine st_ifb (ans_isi rfl h2.ty (kitTup t)) ?_
  rcases hk with ⟨ts, rfl⟩ | ⟨ns, ts, rfl⟩
  · refine iteT ?_
    cases h2 with
    | @lst a xs _ e1 l1 f1 =>
    cases hL with
    | lst hl hall =>
    refine ⟨_, rfl, _, _, rfl, rfl, _, rfl, ?_⟩
    rw [decide_eq_true (show (0 : Int) < ((d' + 1 : Nat) : Int) by omega), if_pos rfl]
    refine ⟨_, rfl, a, _, rfl, .inr (SqT.of e1), _, _, rfl, rfl, _, rfl, ?_⟩
    rw [decide_eq_true (show ((xs.length : Nat) : Int) ≤ 60 by omega), if_pos rfl]
    refine ⟨_, rfl, a, rfl, ⟨xs, SqT.of e1⟩, fun D hD => lc_gen walk_tup (fun H' => Ex (upd H p (.tup [.ty "str", .ty "int"])) H') (fun i v _ => v = .bl true) (Ex.new hD) (fun H' o e => e.mut hD) (fun H' e => SqT.of (e _ _ e1)) (fun i v H' H'' h _ => h) (szl (by omega)) ?_ ?_⟩
    · rintro i x H' H'' C hi fr hacc ⟨rfl, hx⟩ kk
      obtain ⟨ta, hta⟩ : ∃ ta, ts[i]? = some ta := ⟨_, List.getElem?_eq_getElem (by omega)⟩
      refine ⟨rfl, _, rfl, _, rfl, _, _, rfl, rfl, d', x, ta, ?_, by omega, (f1 i x ta hx hta).im (Im.ex fr), hall ta (List.mem_of_getElem? hta), fun H4 e4 => kk _ _ (fr.trans e4) (Im.ex e4) (ex_at e4 hacc) rfl⟩
      exact congrArg (fun z => [x, V.int z]) hd1
    · intro H' acc fr hacc _ hall2
      obtain ⟨bs, rfl, hb⟩ := bools_true hall2
      refine ⟨D, bs, rfl, SqL.of hacc, ?_⟩
      rw [hb]
      exact q H' (ex1.trans fr)
  · refine iteF ?_
    refine ans_isi rfl h2.ty (kitDict (.rcd ns ts)) _ ?_
    rw [show isDi (.rcd ns ts) = true from rfl]
    refine ⟨_, rfl, rfl, _, rfl, ?_⟩
    rw [decide_eq_false (show ¬ V.int ((d' + 1 : Nat) : Int) = V.int 0 by intro z; have := V.int.inj z; omega)]
    refine iteF ?_
    cases h2 with
    | @rcd a o kvs _ _ e1 k1 l1 f1 =>
    cases hL with
    | rcd hl hnm hnd hall =>
    have hl1 : kvs.length = ns.length := by simpa using congrArg List.length k1
    refine ⟨_, rfl, a, o, rfl, .inl ⟨kvs, e1, fun D hD => lc_gen walk_keys (fun H' => Ex (upd H p (.tup [.ty "str", .ty "int"])) H') (fun i v _ => v = .bl true) (Ex.new hD) (fun H' o e => e.mut hD) (fun H' e => e _ _ e1) (fun i v H' H'' h _ => h) (szl (by omega)) ?_ ?_⟩⟩
    · rintro i x H' H'' C hi fr hacc ⟨rfl, k, v1, hkv, rfl⟩ kk
      obtain ⟨n1, hn1, rfl⟩ := key_name k1 hkv
      have hnn := hnm n1 (List.mem_of_getElem? hn1)
      have g1 : (kvs.map (·.2))[i]? = some v1 := by rw [List.getElem?_map, hkv]; rfl
      obtain ⟨ta, hta⟩ : ∃ ta, ts[i]? = some ta := ⟨_, List.getElem?_eq_getElem (by omega)⟩
      have hv1 : valV kvs (Sum.inr n1) = some v1 := by rw [valV_field k1]; exact at_field hnd hn1 g1
      refine ⟨rfl, _, rfl, tl n1, (by rw [S_of]; rfl), (by have := hnn.len; omega), fun H3 e3 => ⟨_, rfl, ?_⟩⟩
      rw [show isNm (tl n1) = true from hnn, if_pos rfl]
      have fr3 := fr.trans e3
      refine ⟨_, rfl, _, rfl, a, v1, rfl, .inl ⟨kvs, _, .inr ⟨o, fr3 _ _ e1⟩, rfl, hv1.symm⟩, _, rfl, _, _, rfl, rfl, d', v1, ta, ?_, by omega, (f1 i v1 ta g1 hta).im (Im.ex fr3), hall ta (List.mem_of_getElem? hta), fun H4 e4 => kk _ _ (fr3.trans e4) (Im.ex (e3.trans e4)) (ex_at (e3.trans e4) hacc) rfl⟩
      exact congrArg (fun z => [v1, V.int z]) hd1
    · intro H' acc fr hacc _ hall2
      obtain ⟨bs, rfl, hb⟩ := bools_true hall2
      refine ⟨D, bs, rfl, SqL.of hacc, ?_⟩
      rw [hb]
      exact q H' (ex1.trans fr)
theorem has_all (T : Bi mg) (F : Df K mg "has_level" ["thing", "most"] st_has_level) (cis_name : Cl P w K mg base 1 "is_name" spIsName) : ∀ n : Nat, Cl P w K mg base (n + 1) "has_level" (spHas n)
  | 0 => has_none F
  | n + 1 => ok_has_level n T F cis_name (has_all T F cis_name n)
def spIsValue : Sp := fun vs H Q _ => ∃ (u : V) (t : Th), vs = [u] ∧ ThAt H u t ∧ Lev 6 t ∧ ∀ H', Ex H H' → Q (.bl true) H'
abbrev st_is_value : Stmt := (topS 16)
theorem sc_is_value : FnScope ["thing"] ["thing"] (defScope st_is_value) := ⟨rfl, rfl, rfl, by decide +kernel, rfl, by decide +kernel, by decide +kernel⟩
theorem ok_is_value (T : Bi mg) (F : Df K mg "is_value" ["thing"] st_is_value) (chas_level : Cl P w K mg base 8 "has_level" (spHas 7)) : Cl P w K mg base 9 "is_value" spIsValue := by
  refine F.ok (k := 8) sc_is_value (fun vs H Q E h => ?_) (fun f cdv A outer s H vs Q E hr h => ?_)
  · obtain ⟨u, t, rfl, _⟩ := h
    rfl
  obtain ⟨u, t, rfl, h1, hL, q⟩ := h
  refine ⟨_, (pss_one (ps_ret (pc chas_level hr (by omega) rfl (pa_cons (pv 0) (pa_cons (C8.pe_gc rfl T.levels) pa_nil))))), ?_⟩
  exact ⟨_, rfl, 6, u, t, rfl, by omega, h1, hL, q⟩
def spSame : Sp := fun vs H Q _ => ∃ (u v : V) (t1 t2 : Th), vs = [u, v] ∧ ThAt H u t1 ∧ ThAt H v t2 ∧ Lev 6 t1 ∧ Lev 6 t2 ∧ Cmp 9 t1 t2 ∧ ∀ b H', Ex H H' → SameOk b t1 t2 → Q (.bl b) H'
abbrev st_same : Stmt := (topS 17)
theorem sc_same : FnScope ["one", "other", "value"] ["one", "other"] (defScope st_same) := ⟨rfl, rfl, rfl, by decide +kernel, rfl, by decide +kernel, by decide +kernel⟩
theorem ok_same (T : Bi mg) (F : Df K mg "same" ["one", "other"] st_same) (cis_value : Cl P w K mg base 9 "is_value" spIsValue) (csame_values : Cl P w K mg base 9 "same_values" (spSameV 9)) : Cl P w K mg base 10 "same" spSame := by
  refine F.ok (k := 9) sc_same (fun vs H Q E h => ?_) (fun f cdv A outer s H vs Q E hr h => ?_)
  · obtain ⟨u, v, t1, t2, rfl, _⟩ := h
    rfl
  obtain ⟨u, v, t1, t2, rfl, h1, h2, hL1, hL2, hC, q⟩ := h
  refine ⟨_, (pss_cons (ps_for PassesOwn.never rfl (pi_tup (pe_tup (pa_cons (pv 0) (pa_cons (pv 1) pa_nil)))) (pg_name (i := 2) sc_same.nd rfl (Or.inl rfl)) (pss_one (ps_if (pt_not (pt_val (pc cis_value hr (by omega) rfl (pa_cons (pv 2) pa_nil)))) (pss_one ps_never) pss_nil)))
      (pss_one (ps_ret (pc csame_values hr (by omega) rfl (pa_cons (pv 0) (pa_cons (pv 1) pa_nil)))))), ?_⟩
  refine ⟨_, rfl, _, rfl, by show 2 ≤ sizeLine; decide, fun p hp => ⟨p, rfl, ⟨_, SqT.of upd_same⟩, for_tup (K := K) (a := p) (xs := [u, v]) (fun i σ H' => (∃ nm, σ = [some u, some v, nm]) ∧ Ex H H' ∧ H' p = some (.tup [u, v]))
    ⟨⟨_, rfl⟩, Ex.new hp, upd_same⟩ (fun i σ H' _ h => SqT.of h.2.2) ?_ ?_⟩⟩
  · rintro i x σ H' hx ⟨⟨nm, rfl⟩, ex, hpt⟩
    obtain ⟨t, ht, hl⟩ : ∃ t, ThAt H x t ∧ Lev 6 t := by
      match i, hx with
      | 0, hx => cases Option.some.inj hx; exact ⟨t1, h1, hL1⟩
      | 1, hx => cases Option.some.inj hx; exact ⟨t2, h2, hL2⟩
      | i + 2, hx => simp at hx
    refine ⟨_, rfl, x, t, rfl, ht.im (Im.ex ex), hl, fun H1 e1 => ⟨_, rfl, ?_⟩⟩
    refine iteF ?_
    exact ⟨⟨_, rfl⟩, ex.trans e1, e1 _ _ hpt⟩
  · rintro σ H' ⟨⟨nm, rfl⟩, ex, hpt⟩
    exact ⟨_, rfl, _, rfl, u, v, t1, t2, rfl, h1.im (Im.ex ex), h2.im (Im.ex ex), hC, fun b H2 e2 ok => q b H2 (ex.trans e2) ok⟩
end
end RT
/-! applied, value_of -/
namespace RT
open PySem PySem.Spec PyProof.Rows L2 Evl
theorem thInts_inv : ∀ {ts : List Th} {l : List Int}, thInts ts = some l → ts = l.map Th.int
  | [], l, h => by simp [thInts] at h; subst h; rfl
  | .int i :: r, l, h => by
    simp only [thInts] at h
    cases e : thInts r with
    | none => rw [e] at h; simp at h
    | some m =>
      rw [e] at h
      simp at h
      subst h
      rw [thInts_inv e]
      rfl
  | .non :: _, _, h => by simp [thInts] at h
  | .bl _ :: _, _, h => by simp [thInts] at h
  | .str _ :: _, _, h => by simp [thInts] at h
  | .lst _ :: _, _, h => by simp [thInts] at h
  | .rcd _ _ :: _, _, h => by simp [thInts] at h
theorem thStrs_inv : ∀ {ts : List Th} {l : List Str}, thStrs ts = some l → ts = l.map Th.str
  | [], l, h => by simp [thStrs] at h; subst h; rfl
  | .str i :: r, l, h => by
    simp only [thStrs] at h
    cases e : thStrs r with
    | none => rw [e] at h; simp at h
    | some m =>
      rw [e] at h
      simp at h
      subst h
      rw [thStrs_inv e]
      rfl
  | .non :: _, _, h => by simp [thStrs] at h
  | .bl _ :: _, _, h => by simp [thStrs] at h
  | .int _ :: _, _, h => by simp [thStrs] at h
  | .lst _ :: _, _, h => by simp [thStrs] at h
  | .rcd _ _ :: _, _, h => by simp [thStrs] at h
theorem app_sum {ts : List Th} {r : Th} (h : app .sum ts = some r) : ∃ l : List Int, ts = l.map Th.int ∧ r = .int l.sum := by
  change (thInts ts).map (fun l => Th.int l.sum) = some r at h
  cases e : thInts ts with
  | none => rw [e] at h; simp at h
  | some l => rw [e] at h; simp at h; exact ⟨l, thInts_inv e, h.symm⟩
theorem app_joined {ts : List Th} {r : Th} (h : app .joined ts = some r) : ∃ l : List Str, ts = l.map Th.str ∧ r = .str (cat l) := by
  change (thStrs ts).map (fun l => Th.str (cat l)) = some r at h
  cases e : thStrs ts with
  | none => rw [e] at h; simp at h
  | some l => rw [e] at h; simp at h; exact ⟨l, thStrs_inv e, h.symm⟩
theorem app_size {ts : List Th} {r : Th} (h : app .size ts = some r) : ∃ q, ts = [.lst q] ∧ r = .int q.length := by
  unfold app at h; split at h <;> first | (cases h; exact ⟨_, rfl, rfl⟩) | (cases h; exact ⟨_, _, rfl, rfl⟩) | simp_all
theorem app_has {ts : List Th} {r : Th} (h : app .has ts = some r) : ∃ t, ts = [t] ∧ r = .bl (!isNon t) := by
  unfold app at h; split at h <;> first | (cases h; exact ⟨_, rfl, rfl⟩) | (cases h; exact ⟨_, _, rfl, rfl⟩) | simp_all
theorem app_or {ts : List Th} {r : Th} (h : app .orElse ts = some r) : ∃ x y, ts = [x, y] ∧ r = if isNon x = true then y else x := by
  unfold app at h; split at h <;> first | (cases h; exact ⟨_, rfl, rfl⟩) | (cases h; exact ⟨_, _, rfl, rfl⟩) | simp_all
theorem app_not {ts : List Th} {r : Th} (h : app .not ts = some r) : ∃ b, ts = [.bl b] ∧ r = .bl (!b) := by
  unfold app at h; split at h <;> first | (cases h; exact ⟨_, rfl, rfl⟩) | (cases h; exact ⟨_, _, rfl, rfl⟩) | simp_all
theorem app_less {ts : List Th} {r : Th} (h : app .less ts = some r) : ∃ a b, ts = [.int a, .int b] ∧ r = .bl (decide (a < b)) := by
  unfold app at h; split at h <;> first | (cases h; exact ⟨_, rfl, rfl⟩) | (cases h; exact ⟨_, _, rfl, rfl⟩) | simp_all
theorem app_both {ts : List Th} {r : Th} (h : app .both ts = some r) : ∃ a b, ts = [.bl a, .bl b] ∧ r = .bl (a && b) := by
  unfold app at h; split at h <;> first | (cases h; exact ⟨_, rfl, rfl⟩) | (cases h; exact ⟨_, _, rfl, rfl⟩) | simp_all
theorem app_either {ts : List Th} {r : Th} (h : app .either ts = some r) : ∃ a b, ts = [.bl a, .bl b] ∧ r = .bl (a || b) := by
  unfold app at h; split at h <;> first | (cases h; exact ⟨_, rfl, rfl⟩) | (cases h; exact ⟨_, _, rfl, rfl⟩) | simp_all
theorem app_equal {ts : List Th} {r : Th} (h : app .equal ts = some r) : ∃ x y, ts = [x, y] ∧ Cmp 1 x y ∧ (∀ b, SameOk b x y → .bl b = r) := by
  have yes : ∀ {x y : Th} {c b : Bool}, isSc x = true → (c = true → x = y) → (x = y → c = true) → (Shal x y → x = y) → SameOk b x y → Th.bl b = .bl c := by
    intro x y c b h1 h2 h3 h4 ok
    congr 1
    rw [Bool.eq_iff_iff]
    exact ⟨fun e => h3 (h4 (ok.shal e)), fun e => ok.yes (h2 e) h1⟩
  unfold app at h
  split at h <;> try (first | contradiction | simp_all; done)
  · rename_i a b _
    cases h
    exact ⟨_, _, rfl, .str a b, fun c ok => yes rfl (fun e => congrArg _ (of_decide_eq_true e)) (fun e => decide_eq_true (Th.str.inj e)) (fun e => congrArg Th.str e) ok⟩
  · rename_i a b _
    cases h
    exact ⟨_, _, rfl, .int a b, fun c ok => yes rfl (fun e => congrArg _ (of_decide_eq_true e)) (fun e => decide_eq_true (Th.int.inj e)) (fun e => congrArg Th.int e) ok⟩
  · rename_i a b _
    cases h
    exact ⟨_, _, rfl, .bl a b, fun c ok => yes rfl (fun e => congrArg _ (of_decide_eq_true e)) (fun e => decide_eq_true (Th.bl.inj e)) (fun e => congrArg Th.bl e) ok⟩
/-- things, side by side -/
def ThsAt (H : Hp) (xs : List V) (ts : List Th) : Prop := xs.length = ts.length ∧ ∀ (i : Nat) v t, xs[i]? = some v → ts[i]? = some t → ThAt H v t
theorem ThsAt.one {H : Hp} {xs : List V} {t : Th} (h : ThsAt H xs [t]) : ∃ v, xs = [v] ∧ ThAt H v t := by
  match xs, h with
  | [v], h => exact ⟨v, rfl, h.2 0 v t rfl rfl⟩
  | [], h => simp [ThsAt] at h
  | _ :: _ :: _, h => simp [ThsAt] at h
theorem ThsAt.two {H : Hp} {xs : List V} {t u : Th} (h : ThsAt H xs [t, u]) : ∃ v z, xs = [v, z] ∧ ThAt H v t ∧ ThAt H z u := by
  match xs, h with
  | [v, z], h => exact ⟨v, z, rfl, h.2 0 v t rfl rfl, h.2 1 z u rfl rfl⟩
  | [], h => simp [ThsAt] at h
  | [_], h => simp [ThsAt] at h
  | _ :: _ :: _ :: _, h => simp [ThsAt] at h
theorem ThsAt.map {H : Hp} {α : Type} {g : α → Th} {gv : α → V} (hg : ∀ v a, ThAt H v (g a) → v = gv a) : ∀ {xs : List V} {l : List α}, ThsAt H xs (l.map g) → xs = l.map gv := by
  intro xs l h
  apply List.ext_getElem?
  intro i
  by_cases hi : i < l.length
  · have hx : i < xs.length := by have := h.1; simp at this; omega
    rw [List.getElem?_eq_getElem hx, List.getElem?_map, List.getElem?_eq_getElem hi, Option.map_some]
    exact congrArg some (hg _ _ (h.2 i _ (g l[i]) (List.getElem?_eq_getElem hx) (by rw [List.getElem?_map, List.getElem?_eq_getElem hi]; rfl)))
  · rw [List.getElem?_eq_none (by have := h.1; simp at this; omega), List.getElem?_eq_none (by simp; omega)]
theorem joinL_nil : ∀ ls : List (List Nat), TL.joinL [] ls = ls.flatten
  | [] => rfl
  | [p] => by simp [TL.joinL]
  | p :: q :: r => by
    have ih := joinL_nil (q :: r)
    show p ++ ([] ++ TL.joinL [] (q :: r)) = _
    rw [ih]
    simp
theorem map_S_tl : ∀ l : List Str, (l.map tl).map S = l
  | [] => rfl
  | x :: r => by
    rw [List.map_cons, List.map_cons, map_S_tl r]
theorem join_cat (l : List Str) : Txt.join ("" : Str) l = cat l := by
  have h := SX.join_S [] (l.map tl)
  rw [joinL_nil] at h
  rw [show (l.map tl).map SX.S = l from map_S_tl l] at h
  exact h
section
variable {K : PySem.W.Frag} {σ : L2.St} {H : Hp} {x y : Str} {b : Bool}
theorem ans_word (h : σ[0]? = some (some (.str x))) (hb : decide (x = y) = b) : Ans (tTest (tOp rEq (tVar 0) (tC (.str y)))) σ H b := by
  refine ans_test ?_
  have e : V.bl b = V.bl (decide (V.str x = V.str y)) := by
    rw [← hb]
    congr 1
    rw [Bool.eq_iff_iff, decide_eq_true_iff, decide_eq_true_iff]
    exact ⟨fun e => congrArg _ e, fun e => V.str.inj e⟩
  rw [e]
  exact val_eq (val_var h) (fun Q q => q) rfl
theorem val_ixL {D : Addr} {xs : List V} {i : Nat} {j : Nat} {v : V} (h : σ[i]? = some (some (.ref D))) (e : H D = some (.lst xs)) (hv : xs[j]? = some v) : Val (tOp (rIxL K) (tVar i) (tC (.int (j : Int)))) σ H v :=
  fun Q q => ⟨_, h, D, xs, (j : Int), v, rfl, rfl, SqL.of e, atI_nat hv, q⟩
end
section
variable {P : Program} {w : World} {K : PySem.W.Frag} {mg : Str → Option Value} {base : Heap} {k : Nat}
def spApplied : Sp := fun vs H Q _ => ∃ (wd : Wd) (D : Addr) (xs : List V) (ts : List Th) (r : Th), vs = [.str wd.str, .ref D] ∧ H D = some (.lst xs) ∧ ThsAt H xs ts ∧ ts.length ≤ 60 ∧ app wd ts = some r ∧ (∀ x : Str, r = .str x → x.length ≤ 16777216) ∧ ∀ v H', Ex H H' → ThAt H' v r → Q v H'
abbrev st_applied : Stmt := (topS 33)
theorem sc_applied : FnScope ["word", "found", "part"] ["word", "found"] (defScope st_applied) := ⟨rfl, rfl, rfl, by decide +kernel, rfl, by decide +kernel, by decide +kernel⟩
theorem ok_applied (T : Bi mg) (F : Df K mg "applied" ["word", "found"] st_applied) (csame_values : Cl P w K mg base 1 "same_values" (spSameV 1)) : Cl P w K mg base 2 "applied" spApplied := by
  refine F.ok (k := 1) sc_applied (fun vs H Q E h => ?_) (fun f cdv A outer s H vs Q E hr h => ?_)
  · obtain ⟨wd, D, xs, ts, r, rfl, _⟩ := h
    rfl
  obtain ⟨wd, D, xs, ts, r, rfl, hD, hT, hl, hA, hlen, q⟩ := h
  refine ⟨_, (pss_cons (ps_if (pt_cmpR op_eq (pv 0) pe_str (nomark _)) (pss_one (ps_ret (pe_callB (cr_sum rfl) rfl T.sum (by decide +kernel) (pa_cons (pv 1) pa_nil)))) pss_nil)
      (pss_cons (ps_if (pt_cmpR op_eq (pv 0) pe_str (nomark _)) (pss_one (ps_ret (pe_join pe_str (pe_lc (own := [("part", 2)]) (g := gName 2) (tt := tYes) rfl sc_applied.nd (pi_list (pv 1)) (blkOk_by (own := [("part", 2)]) (N := ["word", "found", "part"]) (sc := defScope st_applied) (by decide +kernel)) (fun _ _ _ _ _ => (pg_name (i := 2) sc_applied.nd rfl (Or.inl rfl))) (fun _ _ _ _ _ => pts_nil) (fun _ _ _ _ _ => (pe_callTy SkE.call_str_str rfl T.str (by decide +kernel) (pa_cons (pv 2) pa_nil))))))) pss_nil)
      (pss_cons (ps_if (pt_cmpR op_eq (pv 0) pe_str (nomark _)) (pss_one (ps_ret (pe_callB call_len_seq rfl T.len PySem.boot_len (pa_cons (pe_ix ix_list (pv 1) pe_int (fun _ _ => rfl)) pa_nil)))) pss_nil)
      (pss_cons (ps_if (pt_cmpR op_eq (pv 0) pe_str (nomark _)) (pss_one (ps_ret (pe_cmpR op_notN (pe_ix ix_list (pv 1) pe_int (fun _ _ => rfl)) pe_non (nomark _)))) pss_nil)
      (pss_cons (ps_if (pt_cmpR op_eq (pv 0) pe_str (nomark _)) (pss_one (ps_ret (pe_ifExp (pt_cmpR op_isN (pe_ix ix_list (pv 1) pe_int (fun _ _ => rfl)) pe_non (nomark _)) (pe_ix ix_list (pv 1) pe_int (fun _ _ => rfl)) (pe_ix ix_list (pv 1) pe_int (fun _ _ => rfl))))) pss_nil)
      (pss_cons (ps_if (pt_cmpR op_eq (pv 0) pe_str (nomark _)) (pss_one (ps_ret (pe_not (pe_ix ix_list (pv 1) pe_int (fun _ _ => rfl))))) pss_nil)
      (pss_cons (ps_if (pt_cmpR op_eq (pv 0) pe_str (nomark _)) (pss_one (ps_ret (pc csame_values hr (by omega) rfl (pa_cons (pe_ix ix_list (pv 1) pe_int (fun _ _ => rfl)) (pa_cons (pe_ix ix_list (pv 1) pe_int (fun _ _ => rfl)) pa_nil))))) pss_nil)
      (pss_cons (ps_if (pt_cmpR op_eq (pv 0) pe_str (nomark _)) (pss_one (ps_ret (pe_cmpR op_lt (pe_ix ix_list (pv 1) pe_int (fun _ _ => rfl)) (pe_ix ix_list (pv 1) pe_int (fun _ _ => rfl)) (nomark _)))) pss_nil)
      (pss_one (ps_ret (pe_ifExp (pt_cmpR op_eq (pv 0) pe_str (nomark _)) (pe_and (pe_ix ix_list (pv 1) pe_int (fun _ _ => rfl)) (pe_one (pe_ix ix_list (pv 1) pe_int (fun _ _ => rfl)))) (pe_or (pe_ix ix_list (pv 1) pe_int (fun _ _ => rfl)) (pe_one (pe_ix ix_list (pv 1) pe_int (fun _ _ => rfl))))))))))))))), ?_⟩
  cases wd with
  | sum =>
    obtain ⟨l, rfl, rfl⟩ := app_sum hA
    have hx : xs = l.map V.int := hT.map (gv := V.int) fun v a h => by cases h; rfl
    subst hx
    refine st_ifb (ans_word (b := true) rfl (by decide +kernel)) ?_
    refine iteT ?_
    exact ⟨_, rfl, D, l, rfl, SqL.of hD, q _ H (Ex.refl _) (.int _)⟩
  | joined =>
    obtain ⟨l, rfl, rfl⟩ := app_joined hA
    have hx : xs = l.map V.str := hT.map (gv := V.str) fun v a h => by cases h; rfl
    subst hx
    refine st_ifb (ans_word (b := false) rfl (by decide +kernel)) ?_
    refine iteF ?_
    refine st_ifb (ans_word (b := true) rfl (by decide +kernel)) ?_
    refine iteT ?_
    have hl' : l.length ≤ 60 := by simpa using hl
    refine ⟨⟨_, rfl⟩, _, rfl, D, rfl, ⟨_, SqL.of hD⟩, fun C hC => lc_gen (walk_list (a := D) (xs := l.map V.str)) (fun H' => Ex H H') (fun i v _ => ∃ n, l[i]? = some n ∧ v = .str n) (Ex.new hC) (fun H' o e => e.mut hC) (fun H' e => SqL.of (e _ _ hD)) (fun i v H' H'' h _ => h) (szl (by simp; omega)) ?_ ?_⟩
    · rintro i x H' H'' C hi fr hacc ⟨rfl, hx⟩ kk
      obtain ⟨n, hn, rfl⟩ : ∃ n, l[i]? = some n ∧ x = .str n := by
        rw [List.getElem?_map] at hx
        cases e : l[i]? with
        | none => rw [e] at hx; cases hx
        | some n => rw [e] at hx; exact ⟨n, rfl, (Option.some.inj hx).symm⟩
      exact ⟨rfl, _, rfl, _, rfl, kk _ _ fr (Im.refl _) rfl ⟨n, hn, rfl⟩⟩
    · intro H' acc fr hacc hlen2 hall
      have e : acc = l.map V.str := strs_of (by simpa using hlen2) hall
      subst e
      refine ⟨_, C, l, rfl, rfl, .inl (SqL.of hacc), ?_, ?_⟩
      · have := hlen _ rfl
        rw [cat_len] at this
        rw [show (("" : Str)).length = 0 from rfl]
        omega
      · exact q _ H' fr (by rw [← join_cat]; exact .str _)
  | size =>
    obtain ⟨z, rfl, rfl⟩ := app_size hA
    obtain ⟨v, rfl, hv⟩ := hT.one
    refine st_ifb (ans_word (b := false) rfl (by decide +kernel)) ?_
    refine iteF ?_
    refine st_ifb (ans_word (b := false) rfl (by decide +kernel)) ?_
    refine iteF ?_
    refine st_ifb (ans_word (b := true) rfl (by decide +kernel)) ?_
    refine iteT ?_
    refine val_ixL (j := 0) rfl hD rfl _ ?_
    cases hv with
    | @lst a vs _ e1 l1 _ =>
      refine ⟨a, vs, rfl, .inr (SqT.of e1), ?_⟩
      rw [show vs.length = z.length from l1]
      exact q _ H (Ex.refl _) (.int _)
  | has =>
    obtain ⟨z, rfl, rfl⟩ := app_has hA
    obtain ⟨v, rfl, hv⟩ := hT.one
    refine st_ifb (ans_word (b := false) rfl (by decide +kernel)) ?_
    refine iteF ?_
    refine st_ifb (ans_word (b := false) rfl (by decide +kernel)) ?_
    refine iteF ?_
    refine st_ifb (ans_word (b := false) rfl (by decide +kernel)) ?_
    refine iteF ?_
    refine st_ifb (ans_word (b := true) rfl (by decide +kernel)) ?_
    refine iteT ?_
    refine val_ixL (j := 0) rfl hD rfl _ ⟨rfl, ?_⟩
    rw [hv.isN]
    exact q _ H (Ex.refl _) (.bl _)
  | orElse =>
    obtain ⟨z, y, rfl, rfl⟩ := app_or hA
    obtain ⟨v, u, rfl, hv, hu⟩ := hT.two
    refine st_ifb (ans_word (b := false) rfl (by decide +kernel)) ?_
    refine iteF ?_
    refine st_ifb (ans_word (b := false) rfl (by decide +kernel)) ?_
    refine iteF ?_
    refine st_ifb (ans_word (b := false) rfl (by decide +kernel)) ?_
    refine iteF ?_
    refine st_ifb (ans_word (b := false) rfl (by decide +kernel)) ?_
    refine iteF ?_
    refine st_ifb (ans_word (b := true) rfl (by decide +kernel)) ?_
    refine iteT ?_
    refine val_ixL (j := 0) rfl hD rfl _ ⟨rfl, _, rfl, ?_⟩
    rw [hv.isN]
    cases hz : isNon z with
    | true =>
      refine iteT ?_
      refine val_ixL (j := 1) rfl hD rfl _ (q _ H (Ex.refl _) ?_)
      rw [if_pos hz]
      exact hu
    | false =>
      refine iteF ?_
      refine val_ixL (j := 0) rfl hD rfl _ (q _ H (Ex.refl _) ?_)
      rw [if_neg (by rw [hz]; decide)]
      exact hv
  | not =>
    obtain ⟨z, rfl, rfl⟩ := app_not hA
    obtain ⟨v, rfl, hv⟩ := hT.one
    refine st_ifb (ans_word (b := false) rfl (by decide +kernel)) ?_
    refine iteF ?_
    refine st_ifb (ans_word (b := false) rfl (by decide +kernel)) ?_
    refine iteF ?_
    refine st_ifb (ans_word (b := false) rfl (by decide +kernel)) ?_
    refine iteF ?_
    refine st_ifb (ans_word (b := false) rfl (by decide +kernel)) ?_
    refine iteF ?_
    refine st_ifb (ans_word (b := false) rfl (by decide +kernel)) ?_
    refine iteF ?_
    refine st_ifb (ans_word (b := true) rfl (by decide +kernel)) ?_
    refine iteT ?_
    cases hv
    exact val_ixL (j := 0) rfl hD rfl _ ⟨_, rfl, q _ H (Ex.refl _) (.bl _)⟩
  | equal =>
    obtain ⟨z, y, rfl, hC, hS⟩ := app_equal hA
    obtain ⟨v, u, rfl, hv, hu⟩ := hT.two
    refine st_ifb (ans_word (b := false) rfl (by decide +kernel)) ?_
    refine iteF ?_
    refine st_ifb (ans_word (b := false) rfl (by decide +kernel)) ?_
    refine iteF ?_
    refine st_ifb (ans_word (b := false) rfl (by decide +kernel)) ?_
    refine iteF ?_
    refine st_ifb (ans_word (b := false) rfl (by decide +kernel)) ?_
    refine iteF ?_
    refine st_ifb (ans_word (b := false) rfl (by decide +kernel)) ?_
    refine iteF ?_
    refine st_ifb (ans_word (b := false) rfl (by decide +kernel)) ?_
    refine iteF ?_
    refine st_ifb (ans_word (b := true) rfl (by decide +kernel)) ?_
    refine iteT ?_
    refine val_ixL (j := 0) rfl hD rfl _ (val_ixL (j := 1) rfl hD rfl _ ?_)
    exact ⟨v, u, z, y, rfl, hv, hu, hC, fun b H' ex ok => q _ H' ex (by rw [← hS b ok]; exact .bl b)⟩
  | less =>
    obtain ⟨z, y, rfl, rfl⟩ := app_less hA
    obtain ⟨v, u, rfl, hv, hu⟩ := hT.two
    refine st_ifb (ans_word (b := false) rfl (by decide +kernel)) ?_
    refine iteF ?_
    refine st_ifb (ans_word (b := false) rfl (by decide +kernel)) ?_
    refine iteF ?_
    refine st_ifb (ans_word (b := false) rfl (by decide +kernel)) ?_
    refine iteF ?_
    refine st_ifb (ans_word (b := false) rfl (by decide +kernel)) ?_
    refine iteF ?_
    refine st_ifb (ans_word (b := false) rfl (by decide +kernel)) ?_
    refine iteF ?_
    refine st_ifb (ans_word (b := false) rfl (by decide +kernel)) ?_
    refine iteF ?_
    refine st_ifb (ans_word (b := false) rfl (by decide +kernel)) ?_
    refine iteF ?_
    refine st_ifb (ans_word (b := true) rfl (by decide +kernel)) ?_
    refine iteT ?_
    cases hv
    cases hu
    refine val_ixL (j := 0) rfl hD rfl _ (val_ixL (j := 1) rfl hD rfl _ ?_)
    exact ⟨_, _, rfl, rfl, q _ H (Ex.refl _) (.bl _)⟩
  | both =>
    obtain ⟨z, y, rfl, rfl⟩ := app_both hA
    obtain ⟨v, u, rfl, hv, hu⟩ := hT.two
    refine st_ifb (ans_word (b := false) rfl (by decide +kernel)) ?_
    refine iteF ?_
    refine st_ifb (ans_word (b := false) rfl (by decide +kernel)) ?_
    refine iteF ?_
    refine st_ifb (ans_word (b := false) rfl (by decide +kernel)) ?_
    refine iteF ?_
    refine st_ifb (ans_word (b := false) rfl (by decide +kernel)) ?_
    refine iteF ?_
    refine st_ifb (ans_word (b := false) rfl (by decide +kernel)) ?_
    refine iteF ?_
    refine st_ifb (ans_word (b := false) rfl (by decide +kernel)) ?_
    refine iteF ?_
    refine st_ifb (ans_word (b := false) rfl (by decide +kernel)) ?_
    refine iteF ?_
    refine st_ifb (ans_word (b := false) rfl (by decide +kernel)) ?_
    refine iteF ?_
    cases hv
    cases hu
    refine ans_word (b := true) rfl (by decide +kernel) _ ?_
    refine iteT ?_
    exact val_andV (x := z) (y := y) (val_ixL (j := 0) rfl hD rfl) (fun _ => val_ixL (j := 1) rfl hD rfl) _ (q _ H (Ex.refl _) (.bl _))
  | either =>
    obtain ⟨z, y, rfl, rfl⟩ := app_either hA
    obtain ⟨v, u, rfl, hv, hu⟩ := hT.two
    refine st_ifb (ans_word (b := false) rfl (by decide +kernel)) ?_
    refine iteF ?_
    refine st_ifb (ans_word (b := false) rfl (by decide +kernel)) ?_
    refine iteF ?_
    refine st_ifb (ans_word (b := false) rfl (by decide +kernel)) ?_
    refine iteF ?_
    refine st_ifb (ans_word (b := false) rfl (by decide +kernel)) ?_
    refine iteF ?_
    refine st_ifb (ans_word (b := false) rfl (by decide +kernel)) ?_
    refine iteF ?_
    refine st_ifb (ans_word (b := false) rfl (by decide +kernel)) ?_
    refine iteF ?_
    refine st_ifb (ans_word (b := false) rfl (by decide +kernel)) ?_
    refine iteF ?_
    refine st_ifb (ans_word (b := false) rfl (by decide +kernel)) ?_
    refine iteF ?_
    cases hv
    cases hu
    refine ans_word (b := false) rfl (by decide +kernel) _ ?_
    refine iteF ?_
    refine val_ixL (j := 0) rfl hD rfl _ ⟨z, rfl, ?_⟩
    cases z with
    | true => exact q _ H (Ex.refl _) (.bl _)
    | false => exact val_ixL (j := 1) rfl hD rfl _ (q _ H (Ex.refl _) (.bl _))
/-- a tree that may be valued: its texts keep short -/
inductive OkT (ρ : Str → Option Th) : Tree → Prop where
  | get (ns : List Str) : OkT ρ (.get ns)
  | text (x : Str) : OkT ρ (.text x)
  | number (n : Int) : OkT ρ (.number n)
  | flag (b : Bool) : OkT ρ (.flag b)
  | call {v : Wd} {ts : List Tree} : (∀ t ∈ ts, OkT ρ t) → ts.length ≤ 60 → (∀ x : Str, ev ρ (.call v ts) = some (.str x) → x.length ≤ 16777216) → OkT ρ (.call v ts)
theorem evs_get {ρ : Str → Option Th} : ∀ {ts : List Tree} {rs : List Th}, evs ρ ts = some rs → rs.length = ts.length ∧ ∀ (i : Nat) t r, ts[i]? = some t → rs[i]? = some r → ev ρ t = some r
  | [], rs, h => by
    simp only [evs, Option.some.injEq] at h
    subst h
    exact ⟨rfl, fun i t r h _ => by simp at h⟩
  | t :: l, rs, h => by
    simp only [evs] at h
    cases e1 : ev ρ t with
    | none => rw [e1] at h; simp at h
    | some x =>
      cases e2 : evs ρ l with
      | none => rw [e1, e2] at h; simp at h
      | some xs =>
        rw [e1, e2] at h
        simp at h
        subst h
        obtain ⟨h1, h2⟩ := evs_get e2
        refine ⟨by simp [h1], fun i u r hu hr => ?_⟩
        cases i with
        | zero =>
          simp at hu hr
          subst hu hr
          exact e1
        | succ i => exact h2 i u r (by simpa using hu) (by simpa using hr)
def spValueOf (K : PySem.W.Frag) (n : Nat) : Sp := fun vs H Q _ => ∃ (u : V) (d : Addr) (t : Tree) (ρ : Str → Option Th) (r : Th), vs = [u, .ref d] ∧ TrAt K H u t ∧ EnvAt H d ρ ∧ ev ρ t = some r ∧ OkT ρ t ∧ dep t ≤ n ∧
  ∀ v H', Ex H H' → ThAt H' v r → Q v H'
theorem EnvAt.ex {H H' : Hp} {d : Addr} {ρ : Str → Option Th} (e : Ex H H') (h : EnvAt H d ρ) : EnvAt H' d ρ := by
  obtain ⟨kvs, h1, h2⟩ := h
  refine ⟨kvs, ?_, fun n t hn => ?_⟩
  · rcases h1 with h1 | ⟨o, h1⟩
    · exact .inl (e _ _ h1)
    · exact .inr ⟨o, e _ _ h1⟩
  · obtain ⟨v, h3, h4⟩ := h2 n t hn
    exact ⟨v, h3, h4.im (Im.ex e)⟩
abbrev st_value_of : Stmt := (topS 32)
theorem sc_value_of : FnScope ["tree", "values", "part"] ["tree", "values"] (defScope st_value_of) := ⟨rfl, rfl, rfl, by decide +kernel, rfl, by decide +kernel, by decide +kernel⟩
theorem value_none (F : Df K mg "value_of" ["tree", "values"] st_value_of) : Cl P w K mg base 2 "value_of" (spValueOf K 0) := by
  obtain ⟨f, fd, F, m, b⟩ := F.ex
  have no : ∀ vs H Q E, ¬ spValueOf K 0 vs H Q E := fun vs H Q E h => by
    obtain ⟨u, d, t, ρ, r, _, _, _, _, _, h1, _⟩ := h
    have := dep_pos t
    omega
  exact ⟨f, fd, ["tree", "values"], ⟨fun vs H Q E h => absurd h (no vs H Q E), fun A outer s H args us vs Q E _ _ _ _ h => absurd h (no vs H Q E)⟩, m, F.kp, b⟩
theorem val_tag {K : PySem.W.Frag} {σ : L2.St} {H : Hp} {i j : Nat} {a : Addr} {xs : List V} {v : V} (h : σ[i]? = some (some (.ref a))) (e : SqT K H a xs) (hv : xs[j]? = some v) : Val (tOp (rIxT K) (tVar i) (tC (.int (j : Int)))) σ H v :=
  fun Q q => ⟨_, h, a, xs, (j : Int), v, rfl, rfl, e, atI_nat hv, q⟩
theorem ans_tag {K : PySem.W.Frag} {σ : L2.St} {H : Hp} {i : Nat} {a : Addr} {xs : List V} {x y : Str} {b : Bool} (h : σ[i]? = some (some (.ref a))) (e : SqT K H a xs) (hv : xs[0]? = some (.str x)) (hb : decide (x = y) = b) :
    Ans (tTest (tOp rEq (tOp (rIxT K) (tVar i) (tC (.int 0))) (tC (.str y)))) σ H b := by
  refine ans_test ?_
  have e2 : V.bl b = V.bl (decide (V.str x = V.str y)) := by
    rw [← hb]
    congr 1
    rw [Bool.eq_iff_iff, decide_eq_true_iff, decide_eq_true_iff]
    exact ⟨fun e => congrArg _ e, fun e => V.str.inj e⟩
  rw [e2]
  exact val_eq (val_tag (j := 0) h e hv) (fun Q q => q) rfl
theorem ans_tagN {K : PySem.W.Frag} {σ : L2.St} {H : Hp} {i : Nat} {a : Addr} {xs : List V} {x y : Str} {b : Bool} (h : σ[i]? = some (some (.ref a))) (e : SqT K H a xs) (hv : xs[0]? = some (.str x)) (hb : (!decide (x = y)) = b) :
    Ans (tTest (tOp rNe (tOp (rIxT K) (tVar i) (tC (.int 0))) (tC (.str y)))) σ H b := by
  intro Q q
  refine val_tag (j := 0) h e hv _ ⟨rfl, _, rfl, ?_⟩
  have e2 : (!decide (V.str x = V.str y)) = b := by
    rw [← hb]
    congr 1
    rw [Bool.eq_iff_iff, decide_eq_true_iff, decide_eq_true_iff]
    exact ⟨fun e => V.str.inj e, fun e => congrArg _ e⟩
  rw [e2]
  exact q
theorem ok_value_of (n : Nat) (T : Bi mg) (F : Df K mg "value_of" ["tree", "values"] st_value_of) (cvalue_at : Cl P w K mg base 1 "value_at" (spValueAt K)) (capplied : Cl P w K mg base 2 "applied" spApplied)
    (cvalue_of : Cl P w K mg base (n + 2) "value_of" (spValueOf K n)) : Cl P w K mg base (n + 3) "value_of" (spValueOf K (n + 1)) := by
  refine F.ok (k := n + 2) sc_value_of (fun vs H Q E h => ?_) (fun f cdv A outer s H vs Q E hr h => ?_)
  · obtain ⟨u, d, t, ρ, r, rfl, _⟩ := h
    rfl
  obtain ⟨u, d, t, ρ, r, rfl, hu, he, hv, hok, hd, q⟩ := h
  refine ⟨_, (pss_cons (ps_if (pt_cmpR op_eq (pe_ix ix_tup (pv 0) pe_int (fun _ _ => rfl)) pe_str (nomark _)) (pss_one (ps_ret (pc cvalue_at hr (by omega) rfl (pa_cons (pe_ix ix_tup (pv 0) pe_int (fun _ _ => rfl)) (pa_cons (pv 1) pa_nil))))) pss_nil)
      (pss_cons (ps_if (pt_cmpR op_ne (pe_ix ix_tup (pv 0) pe_int (fun _ _ => rfl)) pe_str (nomark _)) (pss_one (ps_ret (pe_ix ix_tup (pv 0) pe_int (fun _ _ => rfl)))) pss_nil)
      (pss_one (ps_ret (pc capplied hr (by omega) rfl (pa_cons (pe_ix ix_tup (pv 0) pe_int (fun _ _ => rfl)) (pa_cons (pe_lc (own := [("part", 2)]) (g := gName 2) (tt := tYes) rfl sc_value_of.nd (pi_tup (pe_ix ix_tup (pv 0) pe_int (fun _ _ => rfl))) (blkOk_by (own := [("part", 2)]) (N := ["tree", "values", "part"]) (sc := defScope st_value_of) (by decide +kernel)) (fun _ _ _ _ _ => (pg_name (i := 2) sc_value_of.nd rfl (Or.inl rfl))) (fun _ _ _ _ _ => pts_nil) (fun _ _ _ _ _ => (pc cvalue_of hr (by omega) rfl (pa_cons (pv 2) (pa_cons (pv 1) pa_nil))))) pa_nil))))))), ?_⟩
  cases t with
  | get ns =>
    obtain ⟨a, xs, rfl, hT, hA⟩ := Dp.tupInv hu
    cases hA with
    | cons a1 hA =>
    cases hA with
    | cons a2 hA =>
    cases hA
    cases a1
    refine st_ifb (ans_tag (b := true) rfl hT rfl (by decide +kernel)) ?_
    refine iteT ?_
    refine val_tag (j := 1) rfl hT rfl _ ⟨_, rfl, ?_⟩
    exact ⟨_, d, ns, ρ, r, rfl, a2, he, by simpa only [ev] using hv, q⟩
  | text x =>
    obtain ⟨a, xs, rfl, hT, hA⟩ := Dp.tupInv hu
    cases hA with
    | cons a1 hA =>
    cases hA with
    | cons a2 hA =>
    cases hA
    cases a1
    cases a2
    simp only [ev, Option.some.injEq] at hv
    subst hv
    refine st_ifb (ans_tag (b := false) rfl hT rfl (by decide +kernel)) ?_
    refine iteF ?_
    refine st_ifb (ans_tagN (b := true) rfl hT rfl (by decide +kernel)) ?_
    refine iteT ?_
    exact val_tag (j := 1) rfl hT rfl _ (q _ H (Ex.refl _) (.str x))
  | number x =>
    obtain ⟨a, xs, rfl, hT, hA⟩ := Dp.tupInv hu
    cases hA with
    | cons a1 hA =>
    cases hA with
    | cons a2 hA =>
    cases hA
    cases a1
    cases a2
    simp only [ev, Option.some.injEq] at hv
    subst hv
    refine st_ifb (ans_tag (b := false) rfl hT rfl (by decide +kernel)) ?_
    refine iteF ?_
    refine st_ifb (ans_tagN (b := true) rfl hT rfl (by decide +kernel)) ?_
    refine iteT ?_
    exact val_tag (j := 1) rfl hT rfl _ (q _ H (Ex.refl _) (.int x))
  | flag x =>
    obtain ⟨a, xs, rfl, hT, hA⟩ := Dp.tupInv hu
    cases hA with
    | cons a1 hA =>
    cases hA with
    | cons a2 hA =>
    cases hA
    cases a1
    cases a2
    simp only [ev, Option.some.injEq] at hv
    subst hv
    refine st_ifb (ans_tag (b := false) rfl hT rfl (by decide +kernel)) ?_
    refine iteF ?_
    refine st_ifb (ans_tagN (b := true) rfl hT rfl (by decide +kernel)) ?_
    refine iteT ?_
    exact val_tag (j := 1) rfl hT rfl _ (q _ H (Ex.refl _) (.bl x))
  | call wd ts =>
    obtain ⟨a, xs, rfl, hT, hA⟩ := Dp.tupInv hu
    cases hA with
    | cons a1 hA =>
    cases hA with
    | cons a2 hA =>
    cases hA with
    | cons a3 hA =>
    cases hA
    cases a1
    cases a2
    obtain ⟨b, ys, rfl, hT2, hA2⟩ := Dp.tupInv a3
    have hyl : ys.length = ts.length := by rw [DpAll.length hA2, tds_len]
    cases hok with
    | call hoks hl60 hlen =>
    have hv0 := hv
    simp only [ev] at hv
    cases hes : evs ρ ts with
    | none => rw [hes] at hv; simp at hv
    | some rs =>
    rw [hes] at hv
    have hap : app wd rs = some r := by simpa using hv
    obtain ⟨hrl, hrg⟩ := evs_get hes
    refine st_ifb (ans_tag (b := false) rfl hT rfl (by decide +kernel)) ?_
    refine iteF ?_
    refine st_ifb (ans_tagN (b := false) rfl hT rfl (by decide +kernel)) ?_
    refine iteF ?_
    refine val_tag (j := 1) rfl hT rfl _ (val_tag (j := 2) rfl hT rfl _ ?_)
    refine ⟨b, rfl, ⟨ys, hT2⟩, fun D hD => lc_gen (walk_tup (xs := ys)) (fun H' => Ex H H') (fun i v H' => ∃ ri, rs[i]? = some ri ∧ ThAt H' v ri) (Ex.new hD) (fun H' o e => e.mut hD) (fun H' e => (Im.ex e).sqT hT2) (fun i v H' H'' h m => let ⟨ri, h1, h2⟩ := h; ⟨ri, h1, h2.im m⟩) (szl (by omega)) ?_ ?_⟩
    · rintro i x H' H'' C hi fr hacc ⟨rfl, hx⟩ kk
      obtain ⟨dd, hd1, hd2⟩ := DpAll.getV hA2 hx
      obtain ⟨ti, hti⟩ : ∃ ti, ts[i]? = some ti := ⟨_, List.getElem?_eq_getElem (by omega)⟩
      obtain ⟨ri, hri⟩ : ∃ ri, rs[i]? = some ri := ⟨_, List.getElem?_eq_getElem (by omega)⟩
      rw [tds_get hti] at hd1
      cases hd1
      have hdd : dep ti ≤ n := by
        have := dep_le_deps (List.mem_of_getElem? hti)
        simp only [dep] at hd
        omega
      exact ⟨rfl, _, rfl, _, rfl, x, d, ti, ρ, ri, rfl, TrAt.im hd2 (Im.ex fr), he.ex fr, hrg i ti ri hti hri, hoks ti (List.mem_of_getElem? hti), hdd, fun v H4 e4 h4 => kk _ _ (fr.trans e4) (Im.ex e4) (ex_at e4 hacc) ⟨ri, hri, h4⟩⟩
    · intro H' acc fr hacc hlen2 hall
      refine ⟨wd, D, acc, rs, r, rfl, hacc, ⟨by omega, fun i v t h1 h2 => ?_⟩, by omega, hap, fun x hx => hlen x (by rw [hv0, hx]), fun v H4 e4 h4 => q v H4 (fr.trans e4) h4⟩
      obtain ⟨ri, h3, h4⟩ := hall i v h1
      rw [h2] at h3
      cases h3
      exact h4
theorem value_all (T : Bi mg) (F : Df K mg "value_of" ["tree", "values"] st_value_of) (cvalue_at : Cl P w K mg base 1 "value_at" (spValueAt K)) (capplied : Cl P w K mg base 2 "applied" spApplied) : ∀ n : Nat, Cl P w K mg base (n + 2) "value_of" (spValueOf K n)
  | 0 => value_none F
  | n + 1 => ok_value_of n T F cvalue_at capplied (value_all T F cvalue_at capplied n)
end
end RT
/-! reads_of -/
namespace RT
open PySem PySem.Spec PyProof.Rows L2 Evl
theorem units65 {k : Nat} {A : Around} (r : Room k A) : A.units + 65 < cLine := by have := r.un; omega
theorem items_strs : ∀ {ns : List Str} {us : List Value} (i : Nat), Vals (ns.map V.str) us → ∃ l, PyProof.Rows.tupItems (fun _ => true) i us = some l
  | [], us, i, h => by
    cases h
    exact ⟨[], rfl⟩
  | x :: ns, us, i, h => by
    rw [List.map_cons] at h
    cases h with
    | cons r t =>
      obtain ⟨k, rfl⟩ := r
      obtain ⟨l, e⟩ := items_strs (i + 1) t
      exact ⟨Sum.inr x.cps.toList :: l, by simp [PyProof.Rows.tupItems, e]⟩
theorem tups_all {h : Heap} {shape : Nat → Bool} : ∀ {us : List Value}, (∀ u ∈ us, ∃ f, PyProof.Rows.TupOf h shape u f) → ∃ fs, PyProof.Rows.TupsOf h shape us fs
  | [], _ => ⟨[], .nil⟩
  | u :: us, hu => by
    obtain ⟨f, h1⟩ := hu u (by simp)
    obtain ⟨fs, h2⟩ := tups_all (us := us) fun v hv => hu v (by simp [hv])
    exact ⟨f :: fs, .cons h1 h2⟩
theorem tupC_of {h : Heap} {shape : Nat → Bool} {a : Addr} {o : Obj} {xs : Array Value} {n : Nat} {l : List (Int ⊕ List Nat)} (ho : h.get? a = some o) (hc : o.cls = .type "tuple") (hd : o.data = .seq xs n)
    (hi : PyProof.Rows.tupItems shape 0 xs.toList = some l) : PyProof.Rows.G.tupKeyC h shape (.ref a) = some l := by
  unfold PyProof.Rows.G.tupKeyC
  have e1 : PyProof.Rows.G.isTupObj h (.ref a) = true := by simp [PyProof.Rows.G.isTupObj, ho, hc]
  rw [if_pos e1]
  simp only [PyProof.Rows.tupKey, ho, hd]
  exact hi
/-- sorted(xs), xs a list of tuples of texts, none empty: a new list of the same -/
def rSortTS (K : PySem.W.Frag) : List V → Hp → VK → Prop := fun vs H Q => ∃ (a : Addr) (xs : List V), vs = [V.ref a] ∧ SqL K H a xs ∧ (∀ x ∈ xs, ∃ (b : Addr) (n : Str) (ns : List Str), x = .ref b ∧ SqT K H b ((n :: ns).map V.str)) ∧
  ∀ (ys : List V) (p : Addr), ys.Perm xs → H p = none → Q (.ref p) (upd H p (.lst ys))
theorem cr_sortTS {X : Cx} : CallR X (.builtin "sorted") (rSortTS X.K) := by
  intro pins s σ H vs us Q I r h
  obtain ⟨a, xs, rfl, hs, hx, q⟩ := h
  obtain ⟨its, rv, hl, hz⟩ := I.list hs
  rw [Vals.ref1 r]
  obtain ⟨e1, e2⟩ := bkV_refs rv fun x m => by
    obtain ⟨b, n, ns, e, _⟩ := hx x m
    exact ⟨b, e⟩
  have tell : ∀ v ∈ its, ∃ (f : Value) (l : List (Int ⊕ List Nat)), PyProof.Rows.TupOf s.heap (fun _ => true) v f ∧ PyProof.Rows.G.tupKeyC s.heap (fun _ => true) v = some l := by
    intro v hv
    obtain ⟨t, rfl⟩ := e2 v hv
    have hm : V.ref t ∈ xs := by
      rw [e1]
      exact List.mem_map.mpr ⟨_, hv, rfl⟩
    obtain ⟨b, n, ns, e, ht⟩ := hx _ hm
    cases e
    obtain ⟨us, rus, ⟨o, ho, hc, k, hd⟩, _⟩ := I.tuple ht
    obtain ⟨l, hl⟩ := items_strs 0 rus
    rw [List.map_cons] at rus
    cases rus with
    | @cons _ u _ us ru rt =>
      obtain ⟨j, rfl⟩ := ru
      exact ⟨_, l, ⟨t, o, _, k, rfl, ho, hc, hd, rfl, (fun z => by cases z), fun _ => ⟨n, j, rfl⟩⟩, tupC_of ho hc hd hl⟩
  obtain ⟨fs, hfs⟩ := tups_all (shape := fun _ => true) fun v hv => let ⟨f, _, h1, _⟩ := tell v hv; ⟨f, h1⟩
  refine PyProof.Rows.G.sorted_tups hl.isList hfs (fun v hv => let ⟨_, l, _, h2⟩ := tell v hv; ⟨l, h2⟩) (by rw [← rv.length]; exact hz) fun st' hp _ _ => ?_
  generalize hO : (arrOf st').map (·.2) = out
  have h1 : out.toList.Perm its := by
    rw [← hO, Array.toList_map]
    have := (Array.perm_iff_toList_perm.mp hp).map (·.2)
    rw [pairsOf_toList] at this
    rw [List.map_snd_zip (by simp)] at this
    exact this
  obtain ⟨ep, he'⟩ := PyProof.Rows.sortedAll_at s.heap its out
  have h3 : ∀ u ∈ out.toList, ∃ a, u = Value.ref a := fun u hu => e2 u (h1.mem_iff.mp hu)
  have hp : (out.toList.map bkV).Perm xs := by
    rw [e1]
    exact h1.map bkV
  have hlen : (out.toList.map bkV).length ≤ sizeLine := by
    rw [hp.length_eq]
    exact hz
  exact ⟨.ref _, upd H (s.heap.objs.size + 1) (.lst (out.toList.map bkV)), I.laid (t' := s.toks) (fun _ _ => PyProof.Rows.sortedAll_old) (Nat.le_succ _) ⟨hlen, out.toList, ep, bkV_vals h3, he'⟩, rfl, q _ _ hp (I.hok.fresh (Nat.le_succ _))⟩
/-! ### comprehensions, exactly -/
section
variable {J : It} {n : Nat} {G : Hp → Prop} {Y : Nat → Hp → V → Hp → Prop} {g : TG} {te : TE} {tt : TT} {vs : List Nat} {σ : L2.St} {H1 : Hp} {D : Addr} {Qd : Hp → Prop}
/-- [e for .. in .. if t]: what is gathered told by A -/
theorem lc_acc (w : Walk J n G Y) (Fr : Hp → Prop) (A : Nat → List V → Hp → Prop) (h0 : Fr (upd H1 D (.lst []))) (hA0 : A 0 [] (upd H1 D (.lst []))) (hmut : ∀ H' o, Fr H' → Fr (upd H' D o)) (hG : ∀ H', Fr H' → G H')
    (hA : ∀ i acc H' H'', A i acc H' → Im H' H'' → A i acc H'') (hn : n < sizeLine)
    (hs : ∀ i x acc H' H'' (C : V → Hp → Prop) (N : Hp → Prop), i < n → Fr H' → H' D = some (.lst acc) → A i acc H' → Y i H' x H'' → (∀ y H4, Fr H4 → Im H' H4 → H4 D = some (.lst acc) → A (i + 1) (acc ++ [y]) H4 → C y H4) →
      (∀ H3, Fr H3 → Im H' H3 → H3 D = some (.lst acc) → A (i + 1) acc H3 → N H3) →
      g x (wipe σ vs) H'' fun σ2 H2 => wipe σ2 vs = wipe σ vs ∧ tt σ2 H2 fun b H3 => if b = true then te σ2 H3 C else N H3)
    (hd : ∀ H' acc, Fr H' → H' D = some (.lst acc) → acc.length ≤ n → A n acc H' → Qd H') :
    ∃ W : Nat → Nat → Hp → Prop, (∃ m, W 0 m (upd H1 D (.lst []))) ∧ ∀ i m H, W i m H →
      (J.stop i H ∧ Qd H) ∨ (J.go i H ∧ ∃ Nx : Hp → Prop, (∀ H', Nx H' → ∃ m', m' < m ∧ W (i + 1) m' H') ∧ ∀ x H', J.yld i H x H' → g x (wipe σ vs) H' fun σ2 H2 => wipe σ2 vs = wipe σ vs ∧ tt σ2 H2 fun b H3 =>
        if b = true then te σ2 H3 fun y H4 => ∃ acc, H4 D = some (.lst acc) ∧ acc.length < sizeLine ∧ Nx (upd H4 D (.lst (acc ++ [y]))) else Nx H3) := by
  refine lc_it w (fun i H => ∃ acc, Fr H ∧ H D = some (.lst acc) ∧ acc.length ≤ i ∧ A i acc H) ⟨[], h0, upd_same, Nat.le_refl _, hA0⟩ (fun i H _ ⟨_, f, _⟩ => hG H f) ?_ (fun H ⟨acc, f, e, l, r⟩ => hd H acc f e l r)
  rintro i x H H' hi ⟨acc, f, e, l, r⟩ y
  refine hs i x acc H H' _ _ hi f e r y (fun v H4 z1 z2 z3 z4 => ?_) (fun H3 f3 i3 d3 a3 => ?_)
  · have im4 : Im H4 (upd H4 D (.lst (acc ++ [v]))) := Im.lst z3
    exact ⟨acc, z3, by omega, acc ++ [v], hmut _ _ z1, upd_same, by simp; omega, hA _ _ _ _ z4 im4⟩
  · exact ⟨acc, f3, d3, by omega, a3⟩
end
/-! ### paths, side by side -/
abbrev dN (ns : List Str) : PyData := .tuple (ns.map PyData.str)
inductive NsAt (K : PySem.W.Frag) (H : Hp) : List V → List (List Str) → Prop where
  | nil : NsAt K H [] []
  | cons {v : V} {ns : List Str} {vs : List V} {nss : List (List Str)} : Dp K H v (dN ns) → NsAt K H vs nss → NsAt K H (v :: vs) (ns :: nss)
section
variable {K : PySem.W.Frag} {H H' : Hp}
theorem noL_dN (ns : List Str) : noL (dN ns) = true := by simp [noL, noL_strs]
theorem NsAt.im (m : Im H H') : ∀ {vs : List V} {nss : List (List Str)}, NsAt K H vs nss → NsAt K H' vs nss
  | _, _, .nil => .nil
  | _, _, .cons a b => .cons (Dp.im m (noL_dN _) a) (NsAt.im m b)
theorem NsAt.len : ∀ {vs : List V} {nss : List (List Str)}, NsAt K H vs nss → vs.length = nss.length
  | _, _, .nil => rfl
  | _, _, .cons a b => by simp [NsAt.len b]
theorem NsAt.dp : ∀ {vs : List V} {nss : List (List Str)}, NsAt K H vs nss → DpAll K H vs (nss.map dN)
  | _, _, .nil => .nil
  | _, _, .cons a b => .cons a (NsAt.dp b)
theorem NsAt.app : ∀ {vs us : List V} {nss mss : List (List Str)}, NsAt K H vs nss → NsAt K H us mss → NsAt K H (vs ++ us) (nss ++ mss)
  | _, _, _, _, .nil, h => h
  | _, _, _, _, .cons a b, h => .cons a (NsAt.app b h)
theorem NsAt.get : ∀ {vs : List V} {nss : List (List Str)}, NsAt K H vs nss → ∀ {i : Nat} {v : V}, vs[i]? = some v → ∃ ns, nss[i]? = some ns ∧ Dp K H v (dN ns)
  | _, _, .nil, i, v, h => by simp at h
  | _, _, .cons a b, 0, v, h => by simp at h; subst h; exact ⟨_, rfl, a⟩
  | _, _, .cons a b, i + 1, v, h => by
    obtain ⟨ns, h1, h2⟩ := NsAt.get b (i := i) (by simpa using h)
    exact ⟨ns, by simpa using h1, h2⟩
theorem NsAt.mem {vs : List V} {nss : List (List Str)} (h : NsAt K H vs nss) {v : V} (hv : v ∈ vs) : ∃ ns, ns ∈ nss ∧ Dp K H v (dN ns) := by
  obtain ⟨i, hi⟩ := List.mem_iff_getElem?.mp hv
  obtain ⟨ns, h1, h2⟩ := h.get hi
  exact ⟨ns, List.mem_of_getElem? h1, h2⟩
theorem NsAt.perm {xs ys : List V} (p : ys.Perm xs) : ∀ {nss : List (List Str)}, NsAt K H ys nss → ∃ mss, mss.Perm nss ∧ NsAt K H xs mss := by
  induction p with
  | nil => intro nss h; cases h; exact ⟨[], List.Perm.refl _, .nil⟩
  | cons x _ ih =>
    intro nss h
    cases h with
    | cons a b =>
      obtain ⟨m, h1, h2⟩ := ih b
      exact ⟨_ :: m, h1.cons _, .cons a h2⟩
  | swap x y l =>
    intro nss h
    cases h with
    | cons a b =>
      cases b with
      | cons a2 b => exact ⟨_, List.Perm.swap _ _ _, .cons a2 (.cons a b)⟩
  | trans _ _ ih1 ih2 =>
    intro nss h
    obtain ⟨m, h1, h2⟩ := ih1 h
    obtain ⟨m2, h3, h4⟩ := ih2 h2
    exact ⟨m2, h3.trans h1, h4⟩
end
structure PathOk (ns : List Str) : Prop where
  ne : ns ≠ []
  ok : ∀ n ∈ ns, NmOk n
theorem lay_strs : ∀ {ns : List Str}, (∀ n ∈ ns, NmOk n) → PyData.canLayAll0 (ns.map PyData.str) = true ∧ PyData.depthAll (ns.map PyData.str) = 0
  | [], _ => ⟨rfl, rfl⟩
  | n :: r, h => by
    obtain ⟨a, b⟩ := lay_strs (ns := r) fun m hm => h m (by simp [hm])
    have hn : PyData.strOk n = true := by
      unfold PyData.strOk
      rw [← Array.all_toList, List.all_eq_true]
      intro c hc
      have := (h n (by simp)).low c hc
      simp [low] at this ⊢
      omega
    refine ⟨?_, ?_⟩
    · simp only [List.map_cons, PyData.canLayAll0, PyData.canLay0, hn, a]
      rfl
    · simp only [List.map_cons, PyData.depthAll, PyData.depth, b]
      rfl
theorem shaped_dN {ns : List Str} (h : PathOk ns) : SeqAt.shaped (dN ns) = true := by
  obtain ⟨a, b⟩ := lay_strs h.ok
  unfold SeqAt.shaped
  simp only [PyData.canLay0, PyData.depth, a, b]
  decide
theorem shaped_dNs {nss : List (List Str)} (h : ∀ ns ∈ nss, PathOk ns) : SeqAt.shaped (.list (nss.map dN)) = true := by
  have h1 : ∀ nss : List (List Str), (∀ ns ∈ nss, PathOk ns) → PyData.canLayAll0 (nss.map dN) = true ∧ PyData.depthAll (nss.map dN) ≤ 1 := by
    intro nss
    induction nss with
    | nil => intro _; exact ⟨rfl, by decide⟩
    | cons ns r ih =>
      intro h
      obtain ⟨a, b⟩ := ih fun m hm => h m (by simp [hm])
      obtain ⟨c, d⟩ := lay_strs (h ns (by simp)).ok
      refine ⟨?_, ?_⟩
      · simp only [List.map_cons, PyData.canLayAll0, PyData.canLay0, c, a]
        rfl
      · simp only [List.map_cons, PyData.depthAll, PyData.depth, d]
        omega
  obtain ⟨a, b⟩ := h1 nss h
  unfold SeqAt.shaped
  simp only [PyData.canLay0, PyData.depth, a, Bool.true_and, decide_eq_true_eq]
  exact decide_eq_true (Nat.le_trans (Nat.succ_le_succ b) (show 2 ≤ 64 by decide))
theorem eqvAll_strs : ∀ {a b : List Str}, PyData.eqvAll (a.map PyData.str) (b.map PyData.str) = decide (a = b)
  | [], [] => rfl
  | [], _ :: _ => rfl
  | _ :: _, [] => rfl
  | x :: a, y :: b => by
    have e : PyData.eqvAll ((x :: a).map PyData.str) ((y :: b).map PyData.str) = ((x == y) && PyData.eqvAll (a.map PyData.str) (b.map PyData.str)) := by
      simp only [List.map_cons, PyData.eqvAll, PyData.eqv]
    rw [e, eqvAll_strs, Bool.eq_iff_iff]
    simp only [Bool.and_eq_true, beq_iff_eq, decide_eq_true_eq, List.cons.injEq]
theorem eqv_dN {a b : List Str} : PyData.eqv (dN a) (dN b) = decide (a = b) := by
  show PyData.eqv (.tuple _) (.tuple _) = _
  simp only [PyData.eqv]
  exact eqvAll_strs
theorem any_dN {ns : List Str} : ∀ nss : List (List Str), ((nss.map dN).any fun z => PyData.eqv z (dN ns)) = decide (ns ∈ nss)
  | [] => rfl
  | m :: r => by
    rw [List.map_cons, List.any_cons, any_dN r, eqv_dN, Bool.eq_iff_iff]
    simp only [Bool.or_eq_true, decide_eq_true_eq, List.mem_cons]
    constructor
    · rintro (h | h)
      · exact .inl h.symm
      · exact .inr h
    · rintro (h | h)
      · exact .inl h.symm
      · exact .inr h
theorem rdss_app : ∀ a b : List Tree, rdss (a ++ b) = rdss a ++ rdss b
  | [], b => rfl
  | t :: a, b => by simp [rdss, rdss_app a b]
theorem rdss_take {ts : List Tree} {i : Nat} {t : Tree} (h : ts[i]? = some t) : rdss (ts.take (i + 1)) = rdss (ts.take i) ++ rds t := by
  rw [List.take_add_one, h, rdss_app]
  simp [rdss]
theorem rdss_take_mem {ts : List Tree} {i : Nat} {ns : List Str} (h : ns ∈ rdss (ts.take i)) : ns ∈ rdss ts := by
  rw [← List.take_append_drop i ts, rdss_app]
  simp [h]
theorem rdss_take_len (ts : List Tree) (i : Nat) : (rdss (ts.take i)).length ≤ (rdss ts).length := by
  have e : rdss ts = rdss (ts.take i) ++ rdss (ts.drop i) := by rw [← rdss_app, List.take_append_drop]
  rw [e, List.length_append]
  omega
section
variable {P : Program} {w : World} {K : PySem.W.Frag} {mg : Str → Option Value} {base : Heap} {k : Nat}
def spReads (K : PySem.W.Frag) (n : Nat) : Sp := fun vs H Q _ => ∃ (u : V) (t : Tree), vs = [u] ∧ TrAt K H u t ∧ dep t ≤ n ∧ (∀ ns ∈ rds t, PathOk ns) ∧ (rds t).length ≤ 1000 ∧
  ∀ D H' xs nss, Ex H H' → H D = none → H' D = some (.lst xs) → NsAt K H' xs nss → (∀ ns, ns ∈ nss ↔ ns ∈ rds t) → nss.length ≤ (rds t).length → Q (.ref D) H'
abbrev st_reads_of : Stmt := (topS 34)
theorem sc_reads_of : FnScope ["tree", "found", "part", "names"] ["tree"] (defScope st_reads_of) := ⟨rfl, rfl, rfl, by decide +kernel, rfl, by decide +kernel, by decide +kernel⟩
theorem reads_none (F : Df K mg "reads_of" ["tree"] st_reads_of) : Cl P w K mg base 0 "reads_of" (spReads K 0) := by
  obtain ⟨f, fd, F, m, b⟩ := F.ex
  have no : ∀ vs H Q E, ¬ spReads K 0 vs H Q E := fun vs H Q E h => by
    obtain ⟨u, t, _, _, h1, _⟩ := h
    have := dep_pos t
    omega
  exact ⟨f, fd, ["tree"], ⟨fun vs H Q E h => absurd h (no vs H Q E), fun A outer s H args us vs Q E _ _ _ _ h => absurd h (no vs H Q E)⟩, m, F.kp, b⟩
theorem ok_reads_of (n : Nat) (T : Bi mg) (F : Df K mg "reads_of" ["tree"] st_reads_of) (creads_of : Cl P w K mg base n "reads_of" (spReads K n)) : Cl P w K mg base (n + 1) "reads_of" (spReads K (n + 1)) := by
  refine F.ok (k := n) sc_reads_of (fun vs H Q E h => ?_) (fun f cdv A outer s H vs Q E hr h => ?_)
  · obtain ⟨u, t, rfl, _⟩ := h
    rfl
  obtain ⟨u, t, rfl, hu, hd, hpo, hln, q⟩ := h
  refine ⟨_, (pss_cons (ps_if (pt_cmpR op_eq (pe_ix ix_tup (pv 0) pe_int (fun _ _ => rfl)) pe_str (nomark _)) (pss_one (ps_ret (pe_lst (pa_cons (pe_ix ix_tup (pv 0) pe_int (fun _ _ => rfl)) pa_nil)))) pss_nil)
      (pss_cons (ps_if (pt_cmpR op_ne (pe_ix ix_tup (pv 0) pe_int (fun _ _ => rfl)) pe_str (nomark _)) (pss_one (ps_ret (pe_lst pa_nil))) pss_nil)
      (pss_cons (ps_set (i := 1) sc_reads_of.nd rfl (Or.inr rfl) (pe_lst pa_nil))
      (pss_cons (ps_for PassesOwn.never rfl (pi_tup (pe_ix ix_tup (pv 0) pe_int (fun _ _ => rfl))) (pg_name (i := 2) sc_reads_of.nd rfl (Or.inl rfl)) (pss_one (ps_expr (pe_bm PySem.F.plainAttrs_list PySem.F.slot_list_extend PySem.F.type_list_extend mt_extend (pv 1) (pa_cons (pe_lc (own := [("names", 3)]) (g := gName 3) (tt := tTest (tOp (rNotInD K) (tVar 3) (tVar 1)))  rfl sc_reads_of.nd (pi_list (pc creads_of hr (by omega) rfl (pa_cons (pv 2) pa_nil))) (blkOk_by (own := [("names", 3)]) (N := ["tree", "found", "part", "names"]) (sc := defScope st_reads_of) (by decide +kernel)) (fun _ _ _ _ _ => (pg_name (i := 3) sc_reads_of.nd rfl (Or.inl rfl))) (fun _ _ _ _ _ => (pts_one (pt_cmpR (op_notInD (units65 hr)) (pv 3) (pv 1) rfl))) (fun _ _ _ _ _ => (pv 3))) pa_nil)))))
      (pss_one (ps_ret (pe_callB cr_sortTS rfl T.srt (by decide +kernel) (pa_cons (pv 1) pa_nil)))))))), ?_⟩
  cases t with
  | get ns =>
    obtain ⟨a, xs, rfl, hT, hA⟩ := Dp.tupInv hu
    cases hA with
    | cons a1 hA =>
    cases hA with
    | cons a2 hA =>
    cases hA
    cases a1
    refine st_ifb (ans_tag (b := true) rfl hT rfl (by decide +kernel)) ?_
    refine iteT ?_
    refine val_tag (j := 1) rfl hT rfl _ ⟨by show 1 ≤ sizeLine; decide, fun p hp => ?_⟩
    exact q p _ _ [ns] (Ex.new hp) hp upd_same (.cons (Dp.im (Im.new hp) (noL_dN _) a2) .nil) (by simp [rds]) (by simp [rds])
  | text x =>
    obtain ⟨a, xs, rfl, hT, hA⟩ := Dp.tupInv hu
    cases hA with
    | cons a1 hA =>
    cases a1
    refine st_ifb (ans_tag (b := false) rfl hT rfl (by decide +kernel)) ?_
    refine iteF ?_
    refine st_ifb (ans_tagN (b := true) rfl hT rfl (by decide +kernel)) ?_
    refine iteT ?_
    exact ⟨by show 0 ≤ sizeLine; decide, fun p hp => q p _ _ [] (Ex.new hp) hp upd_same .nil (by simp [rds]) (by simp [rds])⟩
  | number x =>
    obtain ⟨a, xs, rfl, hT, hA⟩ := Dp.tupInv hu
    cases hA with
    | cons a1 hA =>
    cases a1
    refine st_ifb (ans_tag (b := false) rfl hT rfl (by decide +kernel)) ?_
    refine iteF ?_
    refine st_ifb (ans_tagN (b := true) rfl hT rfl (by decide +kernel)) ?_
    refine iteT ?_
    exact ⟨by show 0 ≤ sizeLine; decide, fun p hp => q p _ _ [] (Ex.new hp) hp upd_same .nil (by simp [rds]) (by simp [rds])⟩
  | flag x =>
    obtain ⟨a, xs, rfl, hT, hA⟩ := Dp.tupInv hu
    cases hA with
    | cons a1 hA =>
    cases a1
    refine st_ifb (ans_tag (b := false) rfl hT rfl (by decide +kernel)) ?_
    refine iteF ?_
    refine st_ifb (ans_tagN (b := true) rfl hT rfl (by decide +kernel)) ?_
    refine iteT ?_
    exact ⟨by show 0 ≤ sizeLine; decide, fun p hp => q p _ _ [] (Ex.new hp) hp upd_same .nil (by simp [rds]) (by simp [rds])⟩
  | call wd ts =>
    obtain ⟨a, xs, rfl, hT, hA⟩ := Dp.tupInv hu
    cases hA with
    | cons a1 hA =>
    cases hA with
    | cons a2 hA =>
    cases hA with
    | cons a3 hA =>
    cases hA
    cases a1
    cases a2
    obtain ⟨b, ys, rfl, hT2, hA2⟩ := Dp.tupInv a3
    have hyl : ys.length = ts.length := by rw [DpAll.length hA2, tds_len]
    have hrd : rds (.call wd ts) = rdss ts := by simp only [rds]
    rw [hrd] at hpo hln
    refine st_ifb (ans_tag (b := false) rfl hT rfl (by decide +kernel)) ?_
    refine iteF ?_
    refine st_ifb (ans_tagN (b := false) rfl hT rfl (by decide +kernel)) ?_
    refine iteF ?_
    refine ⟨by show 0 ≤ sizeLine; decide, fun p hp => ⟨_, rfl, ?_⟩⟩
    have ex0 : Ex H (upd H p (.lst [])) := Ex.new hp
    refine ⟨a, _, 2, .ref b, rfl, rfl, (Im.ex ex0).sqT hT, at_of (j := 2) rfl rfl, b, rfl, ⟨ys, (Im.ex ex0).sqT hT2⟩, for_tup (K := K) (a := b) (xs := ys)
      (fun i σ H' => ∃ nm xs nss, σ = [some (.ref a), some (.ref p), nm, none] ∧ Ex H H' ∧ H' p = some (.lst xs) ∧ NsAt K H' xs nss ∧ (∀ ns, ns ∈ nss ↔ ns ∈ rdss (ts.take i)) ∧ nss.length ≤ (rdss (ts.take i)).length)
      ⟨none, [], [], rfl, ex0, upd_same, .nil, by simp [rdss], by simp [rdss]⟩ (fun i σ H' _ h => let ⟨_, _, _, _, h2, _⟩ := h; (Im.ex h2).sqT hT2) ?_ ?_⟩
    · rintro i x σ H' hx ⟨nm, xs, nss, rfl, ex, hpx, hns, hmem, hlen⟩
      obtain ⟨dd, hd1, hd2⟩ := DpAll.getV hA2 hx
      obtain ⟨ti, hti⟩ : ∃ ti, ts[i]? = some ti := ⟨_, List.getElem?_eq_getElem (by have := (List.getElem?_eq_some_iff.mp hx).1; omega)⟩
      rw [tds_get hti] at hd1
      cases hd1
      have hdd : dep ti ≤ n := by
        have := dep_le_deps (List.mem_of_getElem? hti)
        simp only [dep] at hd
        omega
      have hpt : ∀ ns ∈ rds ti, PathOk ns := fun ns h => hpo ns (rdss_mem (List.mem_of_getElem? hti) h)
      have hpn : ∀ ns ∈ nss, PathOk ns := fun ns h => hpo ns (rdss_take_mem ((hmem ns).mp h))
      have htk := rdss_take hti
      have hll := rdss_take_len ts (i + 1)
      rw [htk, List.length_append] at hll
      refine ⟨_, rfl, .inl ⟨rfl, _, SqL.of hpx⟩, _, rfl, x, ti, rfl, TrAt.im hd2 (Im.ex ex), hdd, hpt, by omega, fun D2 H2 zs mss e2 hD2n hD2 hms hmm hml => ?_⟩
      have hzl := hms.len
      have hxl := hns.len
      refine ⟨D2, rfl, ⟨zs, SqL.of hD2⟩, fun D hD => lc_acc (walk_list (a := D2) (xs := zs)) (fun H' => Ex H2 H')
        (fun j acc H' => ∃ new, NsAt K H' acc new ∧ (∀ ns, ns ∈ new ↔ ns ∈ mss.take j ∧ ns ∉ nss)) (Ex.new hD) ⟨[], .nil, by simp⟩ (fun H' o e => e.mut hD) (fun H' e => SqL.of (e _ _ hD2))
        (fun j acc H' H'' h m => let ⟨new, h1, h2⟩ := h; ⟨new, h1.im m, h2⟩) (szl (by omega)) ?_ ?_⟩
      · rintro j y acc H4 H3 C N hj fr hacc ⟨new, hnew, hnm⟩ ⟨rfl, hy⟩ kc kn
        obtain ⟨ms, hms1, hms2⟩ := hms.get hy
        have hms3 : Dp K H3 y (dN ms) := Dp.im (Im.ex fr) (noL_dN _) hms2
        have hmt : mss.take (j + 1) = mss.take j ++ [ms] := by rw [List.take_add_one, hms1]; rfl
        refine ⟨rfl, _, rfl, _, rfl, dN ms, nss.map dN, hms3, .lst (SqL.of (fr _ _ (e2 _ _ hpx))) ((hns.im (Im.ex (e2.trans fr))).dp), shaped_dN (hpt ms ((hmm ms).mp (List.mem_of_getElem? hms1))), shaped_dNs hpn, _, rfl, ?_⟩
        rw [any_dN]
        by_cases hin : ms ∈ nss
        · rw [decide_eq_true hin]
          refine kn _ fr (Im.refl _) hacc ⟨new, hnew, fun ns => ?_⟩
          rw [hmt, hnm ns, List.mem_append, List.mem_singleton]
          constructor
          · exact fun h => ⟨.inl h.1, h.2⟩
          · rintro ⟨h | h, h2⟩
            · exact ⟨h, h2⟩
            · exact absurd (h ▸ hin) h2
        · rw [decide_eq_false hin]
          refine ⟨_, rfl, kc _ _ fr (Im.refl _) hacc ⟨new ++ [ms], hnew.app (.cons hms3 .nil), fun ns => ?_⟩⟩
          rw [hmt, List.mem_append, List.mem_singleton, hnm ns, List.mem_append, List.mem_singleton]
          constructor
          · rintro (h | h)
            · exact ⟨.inl h.1, h.2⟩
            · exact ⟨.inr h, h ▸ hin⟩
          · rintro ⟨h | h, h2⟩
            · exact .inl ⟨h, h2⟩
            · exact .inr h
      · rintro H3 acc fr hacc hal ⟨new, hnew, hnm⟩
        have hp3 := fr _ _ (e2 _ _ hpx)
        have hal2 := hnew.len
        refine ⟨p, D, xs, acc, rfl, rfl, hp3, hacc, sz (by omega), ?_⟩
        have im4 : Im H3 (upd H3 p (.lst (xs ++ acc))) := Im.lst hp3
        refine ⟨_, xs ++ acc, nss ++ new, rfl, ((ex.trans e2).trans fr).mut hp, upd_same, (hns.im ((Im.ex (e2.trans fr)).trans im4)).app (hnew.im im4), fun ns => ?_, ?_⟩
        · rw [htk, List.mem_append, List.mem_append, hmem ns, hnm ns, List.take_of_length_le (l := mss) (i := zs.length) (by omega), hmm ns]
          constructor
          · rintro (h | h)
            · exact .inl h
            · exact .inr h.1
          · rintro (h | h)
            · exact .inl h
            · by_cases h2 : ns ∈ rdss (ts.take i)
              · exact .inl h2
              · exact .inr ⟨h, fun z => h2 ((hmem ns).mp z)⟩
        · rw [htk, List.length_append, List.length_append]
          omega
    · rintro σ H' ⟨nm, xs, nss, rfl, ex, hpx, hns, hmem, hlen⟩
      rw [List.take_of_length_le (by omega)] at hmem hlen
      refine ⟨_, rfl, p, xs, rfl, SqL.of hpx, fun x hx => ?_, fun zs p2 hperm hp2 => ?_⟩
      · obtain ⟨ns, h1, h2⟩ := hns.mem hx
        have h3 := hpo ns ((hmem ns).mp h1)
        obtain ⟨c, ws, rfl, h4, h5⟩ := Dp.tupInv h2
        have h6 := DpAll.strsInv h5
        subst h6
        cases ns with
        | nil => exact absurd rfl h3.ne
        | cons n r => exact ⟨c, n, r, rfl, h4⟩
      · obtain ⟨mss, h1, h2⟩ := hns.perm hperm.symm
        refine q p2 _ zs mss (ex.trans (Ex.new hp2)) ?_ upd_same (h2.im (Im.new hp2)) (fun ns => ?_) ?_
        · cases e : H p2 with
          | none => rfl
          | some o => rw [ex _ _ e] at hp2; cases hp2
        · rw [hrd, ← hmem ns]
          exact h1.mem_iff
        · rw [hrd, h1.length_eq]
          exact hlen
theorem reads_all (T : Bi mg) (F : Df K mg "reads_of" ["tree"] st_reads_of) : ∀ n : Nat, Cl P w K mg base n "reads_of" (spReads K n)
  | 0 => reads_none F
  | n + 1 => ok_reads_of n T F (reads_all T F n)
end
end RT
/-! the class Expression -/
namespace RT
open PySem PySem.Spec PyProof.Rows L2 Evl
/-! ### making an instance of the class that a local name holds -/
def tMakeL (i : Nat) (C : Addr) (sp : Sp) (dvs : List V) (E : XK) (t : TA) : TE := fun σ H Q => σ[i]? = some (some (.ref C)) ∧ tMake C sp dvs E t σ H Q
section
variable {X : Cx} {CX : CXT} {k i : Nat} {f C : Addr} {fd : FuncData} {ps : List Str} {sp : Sp} {dvs : List V} {ds : List Value} {E : XK} {x : Str} {p pos : Pos} {e : Expr} {es : List Expr} {t : TA}
theorem pe_makeL (M : Mk X.K C f) (F : FnOk X.prog X.w X.K X.mg X.base CX k f fd ps sp) (hr : Room (k + 1) X.A) (hN : X.N[i]? = some x) (hv : Vis X.env.scope x) (hb : Binds X.K fd ps ds) (hd : Vals dvs ds) (hx : Passes CX X E) (ha : PA X (e :: es) t)
    (hdb : (x == ("__debug__" : Str)) = false := by decide) (hcd : (x == ("__classdict__" : Str)) = false := by decide)
    (he : starEach (e :: es) X.env = (false, eval e X.env) :: starEach es X.env := by rfl) (hpl : (backTo pos (starEach es X.env)).any (·.1) = false := by rfl) : PE X (.Call (.Name x p) (e :: es) [] pos) (tMakeL i C sp dvs E t) := by
  refine ⟨fun pins s σ H Q I h => ?_⟩
  obtain ⟨hs, ht⟩ := h
  refine wpAny_Call_Name_kw (thn ((pe_var (pos := p) hN hv hdb hcd).run pins s σ H (fun v H1 => v = .ref C ∧ H1 = H) I ⟨.ref C, hs, rfl, rfl⟩) fun u s1 ⟨v, H1, I1, r1, q1⟩ => ?_)
  obtain ⟨rfl, rfl⟩ := q1
  cases r1
  refine PySem.W.callWith_K (h₀ := X.base) I.ok.mod.kin M.kp (thn (ha.run pos pins s1 σ _ _ I1 ht) fun us s2 ⟨vs, H2, I2, r, q⟩ => ⟨I2.kIn, ?_⟩) he hpl
  exact run_make M F hr hb hd hx I2 r q
end
theorem nodup_snoc {α : Type} {l : List α} {x : α} (h : l.Nodup) (hx : x ∉ l) : (l ++ [x]).Nodup := by
  rw [List.nodup_append]
  refine ⟨h, by simp, fun a ha b hb => ?_⟩
  rw [List.mem_singleton] at hb
  subst hb
  rintro rfl
  exact hx ha
/-- the class as the top has made it -/
structure Ec (K : PySem.W.Frag) (mg : Str → Option Value) (C : Addr) : Prop where
  cl : Cls K C
  nT : NoAttr K C "tree_form"
  mgC : mg "Expression" = some (.ref C)
def ExAt (K : PySem.W.Frag) (C : Addr) (H : Hp) (v : V) (t : Tree) : Prop := ∃ a dx u, v = .ref a ∧ H a = some (.ins C dx (putF "tree_form" u [])) ∧ TrAt K H u t
theorem ExAt.ex {K : PySem.W.Frag} {C : Addr} {H H' : Hp} {v : V} {t : Tree} (h : ExAt K C H v t) (e : Ex H H') : ExAt K C H' v t := by
  obtain ⟨a, dx, u, h1, h2, h3⟩ := h
  exact ⟨a, dx, u, h1, e _ _ h2, h3.im (Im.ex e)⟩
theorem ExAt.keep {K : PySem.W.Frag} {C : Addr} {p : Addr} {H H' : Hp} {v : V} {t : Tree} (hp : PoolAt H p) (h : ExAt K C H v t) (e : Pl p H H') : ExAt K C H' v t := by
  obtain ⟨a, dx, u, h1, h2, h3⟩ := h
  exact ⟨a, dx, u, h1, e.keep _ _ (hp.ne h2 (by intro xs z; cases z)) h2, h3.im (e.im hp)⟩
theorem fld_one (u : V) : (putF "tree_form" u []).lookup ("tree_form" : Str) = some u := by rw [lookup_putF, if_pos rfl]
section
variable {P : Program} {w : World} {K : PySem.W.Frag} {mg : Str → Option Value} {base : Heap} {k : Nat} {C f : Addr} {fd : FuncData}
def spInit (C : Addr) : Sp := fun vs H Q _ => ∃ (a dx : Addr) (u : V), vs = [.ref a, u] ∧ H a = some (.ins C dx []) ∧ Q .non (upd H a (.ins C dx (putF "tree_form" u [])))
abbrev st_Expression___init : Stmt := (inClass (topS 35) 0)
theorem sc_Expression___init : FnScope ["self", "tree"] ["self", "tree"] (defScope st_Expression___init) := ⟨rfl, rfl, rfl, by decide +kernel, rfl, by decide +kernel, by decide +kernel⟩
theorem ok_init (F : Fun K "__init__" "Expression.__init__" st_Expression___init f fd) (Z : Ec K mg C) : FnOk P w K mg base CX0 1 f fd ["self", "tree"] (spInit C) := by
  refine F.ok (k := 0) sc_Expression___init (fun vs H Q E h => ?_) (fun cdv A outer s H vs Q E hr h => ?_)
  · obtain ⟨a, dx, u, rfl, _⟩ := h
    rfl
  obtain ⟨a, dx, u, rfl, ha, q⟩ := h
  refine ⟨_, (pss_one (ps_fld (pv 0) (pv 1) rfl)), ?_⟩
  exact ⟨_, rfl, _, rfl, a, C, dx, [], rfl, ha, Z.cl, Z.nT, by show 0 < 1000; decide, q⟩
def spERead (K : PySem.W.Frag) (C : Addr) : Sp := fun vs H Q _ => ∃ t : Tree, vs = [.ref C, .str (S (cod t))] ∧ (cod t).length ≤ 100000 ∧ Pr t ∧ dep t ≤ 8 ∧ ∀ v H', Ex H H' → ExAt K C H' v t → Q v H'
abbrev st_Expression_read : Stmt := (inClass (topS 35) 1)
theorem sc_Expression_read : FnScope ["cls", "text", "tree"] ["cls", "text"] (defScope st_Expression_read) := ⟨rfl, rfl, rfl, by decide +kernel, rfl, by decide +kernel, by decide +kernel⟩
theorem ok_eread {f1 : Addr} {fd1 : FuncData} (F : Fun K "read" "Expression.read" st_Expression_read f fd) (Z : Ec K mg C) (M : Mk K C f1) (G : FnOk P w K mg base CX0 1 f1 fd1 ["self", "tree"] (spInit C)) (b : Binds K fd1 ["self", "tree"] [])
    (cparse_expression : Cl P w K mg base 19 "parse_expression" (spParse K)) : FnOk P w K mg base CX0 20 f fd ["cls", "text"] (spERead K C) := by
  refine F.ok (k := 19) sc_Expression_read (fun vs H Q E h => ?_) (fun cdv A outer s H vs Q E hr h => ?_)
  · obtain ⟨t, rfl, _⟩ := h
    rfl
  obtain ⟨t, rfl, hl, hP, hd, q⟩ := h
  refine ⟨_, (pss_cons (ps_set (i := 2) sc_Expression_read.nd rfl (Or.inl rfl) (pc cparse_expression hr (by omega) rfl (pa_cons (pv 1) pa_nil)))
      (pss_cons (ps_if (pt_cmpR op_isN (pv 2) pe_non (nomark _)) (pss_one ps_never) pss_nil)
      (pss_one (ps_ret (pe_makeL (i := 0) M G (hr.mono (by omega)) rfl (Or.inl rfl) b .nil pass0 (pa_cons (pv 2) pa_nil)))))), ?_⟩
  refine ⟨_, rfl, t, rfl, hl, hP, hd, fun v H1 e1 h1 => ?_⟩
  have hv : ∃ c, v = .ref c := by
    cases t <;> (obtain ⟨c, _, e, _⟩ := Dp.tupInv h1; exact ⟨c, e⟩)
  obtain ⟨c, rfl⟩ := hv
  refine ⟨_, rfl, rfl, _, rfl, ?_⟩
  rw [show decide (V.ref c = V.non) = false from rfl]
  refine iteF ?_
  refine ⟨rfl, _, rfl, ?_⟩
  intro x dx hx hdx hne
  have e2 : Ex H1 (upd (upd H1 dx (.own x)) x (.ins C dx [])) := (Ex.new hdx).mut hx
  refine ⟨x, dx, _, rfl, upd_same, rfl, q _ _ (e1.trans (e2.mut hx)) ⟨x, dx, _, rfl, upd_same, ?_⟩⟩
  exact h1.im (Im.ex (e2.mut hx))
def spEReads (K : PySem.W.Frag) (C : Addr) (n : Nat) : Sp := fun vs H Q _ => ∃ (a : V) (t : Tree), vs = [a] ∧ ExAt K C H a t ∧ dep t ≤ n ∧ (∀ ns ∈ rds t, PathOk ns) ∧ (rds t).length ≤ 60 ∧
  ∀ D H' xs nss, Ex H H' → H' D = some (.tup xs) → NsAt K H' xs nss → (∀ ns, ns ∈ nss ↔ ns ∈ rds t) → nss.length ≤ 60 → Q (.ref D) H'
abbrev st_Expression_reads : Stmt := (inClass (topS 35) 2)
theorem sc_Expression_reads : FnScope ["self"] ["self"] (defScope st_Expression_reads) := ⟨rfl, rfl, rfl, by decide +kernel, rfl, by decide +kernel, by decide +kernel⟩
theorem ok_ereads {n : Nat} (T : Bi mg) (F : Fun K "reads" "Expression.reads" st_Expression_reads f fd) (Z : Ec K mg C) (creads_of : Cl P w K mg base n "reads_of" (spReads K n)) : FnOk P w K mg base CX0 (n + 1) f fd ["self"] (spEReads K C n) := by
  refine F.ok (k := n) sc_Expression_reads (fun vs H Q E h => ?_) (fun cdv A outer s H vs Q E hr h => ?_)
  · obtain ⟨a, t, rfl, _⟩ := h
    rfl
  obtain ⟨a0, t, rfl, ⟨a, dx, u, rfl, ha, hu⟩, hd, hp, hl, q⟩ := h
  refine ⟨_, (pss_one (ps_ret (pe_callTy call_tuple_of rfl T.tup (by decide +kernel) (pa_cons (pc creads_of hr (by omega) rfl (pa_cons (pe_fld (pv 0) rfl) pa_nil)) pa_nil)))), ?_⟩
  refine ⟨_, rfl, a, C, dx, _, u, rfl, ha, Z.cl, Z.nT, fld_one u, u, t, rfl, hu, hd, hp, by omega, fun D H1 xs nss e1 _ hD hns hm hln => ?_⟩
  refine ⟨D, xs, rfl, .inl ⟨SqL.of hD, fun p hp => ?_⟩⟩
  exact q p _ xs nss (e1.trans (Ex.new hp)) upd_same (hns.im (Im.new hp)) hm (by omega)
def spEVars (K : PySem.W.Frag) (C : Addr) (n : Nat) : Sp := fun vs H Q _ => ∃ (a : V) (t : Tree), vs = [a] ∧ ExAt K C H a t ∧ dep t ≤ n ∧ (∀ ns ∈ rds t, PathOk ns) ∧ (rds t).length ≤ 60 ∧
  ∀ D H' (ws : List Str), Ex H H' → H' D = some (.tup (ws.map V.str)) → (∀ m, m ∈ ws ↔ ∃ ns ∈ rds t, ns.head? = some m) → ws.Nodup → ws.length ≤ 60 → Q (.ref D) H'
abbrev st_Expression_variables : Stmt := (inClass (topS 35) 3)
theorem sc_Expression_variables : FnScope ["self", "found", "names"] ["self"] (defScope st_Expression_variables) := ⟨rfl, rfl, rfl, by decide +kernel, rfl, by decide +kernel, by decide +kernel⟩
theorem ok_evars {n : Nat} (T : Bi mg) (F : Fun K "variables" "Expression.variables" st_Expression_variables f fd) (Z : Ec K mg C) (creads_of : Cl P w K mg base n "reads_of" (spReads K n)) : FnOk P w K mg base CX0 (n + 1) f fd ["self"] (spEVars K C n) := by
  refine F.ok (k := n) sc_Expression_variables (fun vs H Q E h => ?_) (fun cdv A outer s H vs Q E hr h => ?_)
  · obtain ⟨a, t, rfl, _⟩ := h
    rfl
  obtain ⟨a0, t, rfl, ⟨a, dx, u, rfl, ha, hu⟩, hd, hp, hl, q⟩ := h
  refine ⟨_, (pss_cons (ps_set (i := 1) sc_Expression_variables.nd rfl (Or.inl rfl) (pe_lst pa_nil))
      (pss_cons (ps_for PassesOwn.never rfl (pi_list (pc creads_of hr (by omega) rfl (pa_cons (pe_fld (pv 0) rfl) pa_nil))) (pg_name (i := 2) sc_Expression_variables.nd rfl (Or.inl rfl)) (pss_one (ps_if (pt_cmpR op_notIn_seq (pe_ix ix_tup (pv 2) pe_int (fun _ _ => rfl)) (pv 1) rfl) (pss_one (ps_expr (pe_bm PySem.F.plainAttrs_list PySem.F.slot_list_append PySem.F.type_list_append mt_append (pv 1) (pa_cons (pe_ix ix_tup (pv 2) pe_int (fun _ _ => rfl)) pa_nil)))) pss_nil)))
      (pss_one (ps_ret (pe_callTy call_tuple_of rfl T.tup (by decide +kernel) (pa_cons (pe_callB cr_sortedS rfl T.srt (by decide +kernel) (pa_cons (pv 1) pa_nil)) pa_nil)))))), ?_⟩
  refine ⟨by show 0 ≤ sizeLine; decide, fun p hpn => ?_⟩
  have e0 : Ex H (upd H p (.lst [])) := Ex.new hpn
  refine ⟨_, rfl, a, C, dx, _, u, rfl, e0 _ _ ha, Z.cl, Z.nT, fld_one u, u, t, rfl, hu.im (Im.ex e0), hd, hp, by omega, fun D H1 xs nss e1 _ hD hns hm hln => ?_⟩
  have hxl := hns.len
  refine ⟨D, rfl, ⟨xs, SqL.of hD⟩, for_list (K := K) (a := D) (xs := xs)
      (fun i σ H' => ∃ nm ws, σ = [some (.ref a), some (.ref p), nm] ∧ Ex H H' ∧ H' D = some (.lst xs) ∧ NsAt K H' xs nss ∧ H' p = some (.lst (ws.map V.str)) ∧ (∀ m, m ∈ ws ↔ ∃ ns ∈ nss.take i, ns.head? = some m) ∧ ws.Nodup ∧ ws.length ≤ i)
      ⟨none, [], rfl, e0.trans e1, hD, hns, e1 _ _ upd_same, by simp, List.nodup_nil, Nat.le_refl _⟩ (fun i σ H' _ h => let ⟨_, _, _, _, h2, _⟩ := h; SqL.of h2) ?_ ?_⟩
  · rintro i x σ H' hx ⟨nm, ws, rfl, ex, hD', hns', hpw, hmem, hnd, hwl⟩
    obtain ⟨ns, hn1, hn2⟩ := hns'.get hx
    have hpo := hp ns ((hm ns).mp (List.mem_of_getElem? hn1))
    obtain ⟨c, us, rfl, hT, hA⟩ := Dp.tupInv hn2
    have hus := DpAll.strsInv hA
    subst hus
    cases ns with
    | nil => exact absurd rfl hpo.ne
    | cons m r =>
    have hmt : nss.take (i + 1) = nss.take i ++ [m :: r] := by rw [List.take_add_one, hn1]; rfl
    have hil : i < nss.length := (List.getElem?_eq_some_iff.mp hn1).1
    have hpD : D ≠ p := by
      rintro rfl
      rw [hD'] at hpw
      have e := HO.lst.inj (Option.some.inj hpw)
      rw [e, List.getElem?_map] at hx
      cases q : ws[i]? with
      | none => rw [q] at hx; cases hx
      | some _ => rw [q] at hx; cases hx
    refine ⟨_, rfl, c, _, _, _, rfl, rfl, hT, at_of (j := 0) rfl rfl, _, rfl, p, _, rfl, .inl (SqL.of hpw), rfl, flat_strs ws, _, rfl, ?_⟩
    rw [inV_strs]
    by_cases hin : m ∈ ws
    · rw [decide_eq_true hin]
      refine iteF ?_
      refine ⟨_, ws, rfl, ex, hD', hns', hpw, fun z => ?_, hnd, by omega⟩
      rw [hmt, hmem z]
      constructor
      · rintro ⟨ns, h1, h2⟩
        exact ⟨ns, List.mem_append_left _ h1, h2⟩
      · rintro ⟨ns, h1, h2⟩
        rcases List.mem_append.mp h1 with h | h
        · exact ⟨ns, h, h2⟩
        · rw [List.mem_singleton] at h
          subst h
          have : m = z := by simpa using h2
          subst this
          exact (hmem m).mp hin
    · rw [decide_eq_false hin]
      refine iteT ?_
      have im4 : Im H' (upd H' p (.lst (ws.map V.str ++ [V.str m]))) := Im.lst hpw
      refine ⟨_, rfl, .inl ⟨rfl, _, SqL.of hpw⟩, _, rfl, c, _, _, _, rfl, rfl, hT, at_of (j := 0) rfl rfl, p, _, _, rfl, rfl, hpw, szl (by simp; omega), ?_⟩
      refine ⟨_, ws ++ [m], rfl, ex.mut hpn, by rw [upd_ne hpD]; exact hD', hns'.im im4, by rw [upd_same]; simp, fun z => ?_, nodup_snoc hnd hin, by simp; omega⟩
      rw [hmt, List.mem_append, hmem z]
      constructor
      · rintro (⟨ns, h1, h2⟩ | h)
        · exact ⟨ns, List.mem_append_left _ h1, h2⟩
        · rw [List.mem_singleton] at h
          subst h
          exact ⟨_, List.mem_append_right _ (List.mem_singleton.mpr rfl), rfl⟩
      · rintro ⟨ns, h1, h2⟩
        rcases List.mem_append.mp h1 with h | h
        · exact .inl ⟨ns, h, h2⟩
        · rw [List.mem_singleton] at h
          subst h
          refine .inr (List.mem_singleton.mpr ?_)
          simpa using h2.symm
  · rintro σ H' ⟨nm, ws, rfl, ex, hD', hns', hpw, hmem, hnd, hwl⟩
    rw [List.take_of_length_le (by omega)] at hmem
    refine ⟨_, rfl, p, ws, rfl, SqL.of hpw, by omega, fun ys p2 hperm _ hp2 => ?_⟩
    refine ⟨p2, ys.map V.str, rfl, .inl ⟨SqL.of upd_same, fun p3 hp3 => ?_⟩⟩
    refine q p3 _ ys (ex.trans ((Ex.new hp2).trans (Ex.new hp3))) upd_same (fun m => ?_) (hperm.nodup_iff.mpr hnd) (by rw [hperm.length_eq]; omega)
    rw [hperm.mem_iff, hmem m]
    constructor
    · rintro ⟨ns, h1, h2⟩
      exact ⟨ns, (hm ns).mp h1, h2⟩
    · rintro ⟨ns, h1, h2⟩
      exact ⟨ns, (hm ns).mpr h1, h2⟩
def spECall (K : PySem.W.Frag) (C : Addr) (n : Nat) : Sp := fun vs H Q _ => ∃ (a : V) (d : Addr) (t : Tree) (ρ : Str → Option Th) (r : Th), vs = [a, .ref d] ∧ ExAt K C H a t ∧ EnvAt H d ρ ∧ ev ρ t = some r ∧ OkT ρ t ∧ dep t ≤ n ∧ ∀ v H', Ex H H' → ThAt H' v r → Q v H'
abbrev st_Expression___call : Stmt := (inClass (topS 35) 7)
theorem sc_Expression___call : FnScope ["self", "values"] ["self", "values"] (defScope st_Expression___call) := ⟨rfl, rfl, rfl, by decide +kernel, rfl, by decide +kernel, by decide +kernel⟩
theorem ok_ecall {n : Nat} (F : Fun K "__call__" "Expression.__call__" st_Expression___call f fd) (Z : Ec K mg C) (cvalue_of : Cl P w K mg base (n + 2) "value_of" (spValueOf K n)) : FnOk P w K mg base CX0 (n + 3) f fd ["self", "values"] (spECall K C n) := by
  refine F.ok (k := n + 2) sc_Expression___call (fun vs H Q E h => ?_) (fun cdv A outer s H vs Q E hr h => ?_)
  · obtain ⟨a, d, t, ρ, r, rfl, _⟩ := h
    rfl
  obtain ⟨a0, d, t, ρ, r, rfl, ⟨a, dx, u, rfl, ha, hu⟩, he, hv, hok, hd, q⟩ := h
  refine ⟨_, (pss_one (ps_ret (pc cvalue_of hr (by omega) rfl (pa_cons (pe_fld (pv 0) rfl) (pa_cons (pv 1) pa_nil))))), ?_⟩
  exact ⟨_, rfl, a, C, dx, _, u, rfl, ha, Z.cl, Z.nT, fld_one u, _, rfl, u, d, t, ρ, r, rfl, hu, he, hv, hok, hd, q⟩
end
end RT
/-! the law's own draws -/
namespace RT
open PySem PySem.Spec PyProof.Rows L2 Evl
section
variable {P : Program} {w : World} {K : PySem.W.Frag} {mg : Str → Option Value} {base : Heap} {k : Nat}
theorem cmul_l {i j : Int} (h : -1000000000000 < i ∧ i < 1000000000000) : CMul i j := .inl ⟨by have := h.1; omega, by have := h.2; omega⟩
theorem cmul_r {i j : Int} (h : -1000000000000 < j ∧ j < 1000000000000) : CMul i j := .inr ⟨by have := h.1; omega, by have := h.2; omega⟩
theorem cut_ints (ns : List Int) (lo hi : Option Int) : ∃ ms : List Int, cutV (ns.map V.int) lo hi = ms.map V.int := by
  unfold cutV
  exact ⟨_, by rw [← List.map_drop, ← List.map_take]⟩
def spCell (K : PySem.W.Frag) : Sp := fun vs H Q _ => ∃ (a : Addr) (ns : List Int) (i : Nat), vs = [.ref a, .int (i : Int)] ∧ SqL K H a (ns.map V.int) ∧ i ≤ 1000 ∧ ∀ v H', Ex H H' → Q (.int v) H'
abbrev st_law_cell : Stmt := (topS 37)
theorem sc_law_cell : FnScope ["_law_script", "_law_k", "_law_state", "_law_cell_here"] ["_law_script", "_law_k"] (defScope st_law_cell) := ⟨rfl, rfl, rfl, by decide +kernel, rfl, by decide +kernel, by decide +kernel⟩
theorem ok_cell (T : Bi mg) (F : Df K mg "_law_cell" ["_law_script", "_law_k"] st_law_cell) : Cl P w K mg base 1 "_law_cell" (spCell K) := by
  refine F.ok (k := 0) sc_law_cell (fun vs H Q E h => ?_) (fun f cdv A outer s H vs Q E hr h => ?_)
  · obtain ⟨a, ns, i, rfl, _⟩ := h
    rfl
  obtain ⟨a, ns, i, rfl, hS, hi, q⟩ := h
  refine ⟨_, (pss_cons (ps_if (pt_cmpR op_lt (pv 1) (pe_callB call_len_seq rfl T.len PySem.boot_len (pa_cons (pv 0) pa_nil)) (nomark _)) (pss_one (ps_ret (pe_ix ix_list (pv 0) (pv 1) (fun _ _ => rfl)))) pss_nil)
      (pss_cons (ps_set (i := 2) sc_law_cell.nd rfl (Or.inl rfl) (pe_op op_mod (pe_op op_mul pe_int (pe_op op_add (pe_op op_add (pe_op op_mul (pv 1) (pv 1)) (pe_op op_mul pe_int (pv 1))) pe_int)) pe_int))
      (pss_cons (ps_for PassesOwn.never rfl (pi_list (pe_slice sl_list (pv 0) po_none (po_some pe_int))) (pg_name (i := 3) sc_law_cell.nd rfl (Or.inl rfl)) (pss_one (ps_set (i := 2) sc_law_cell.nd rfl (Or.inl rfl) (pe_op op_mod (pe_op op_add (pe_op op_mul (pv 2) pe_int) (pv 3)) pe_int))))
      (pss_one (ps_ret (pv 2)))))), ?_⟩
  refine ⟨_, rfl, _, rfl, a, _, rfl, .inl hS, _, _, rfl, rfl, _, rfl, ?_⟩
  refine ite2 (fun h => ?_) (fun _ => ?_)
  · have hlt : i < ns.length := by
      have := of_decide_eq_true h
      rw [List.length_map] at this
      omega
    exact ⟨_, rfl, _, rfl, a, _, _, .int ns[i], rfl, rfl, hS, atI_nat (by rw [List.getElem?_map, List.getElem?_eq_getElem hlt]; rfl), q _ H (Ex.refl _)⟩
  refine ⟨_, rfl, _, rfl, _, _, rfl, rfl, cmul_l (by omega), _, rfl, _, _, rfl, rfl, cmul_l (by omega), _, _, rfl, rfl, _, _, rfl, rfl, _, _, rfl, rfl, cmul_l (by omega), _, _, rfl, rfl, by show (0 : Int) < 1000000007; decide, ?_⟩
  refine ⟨_, rfl, _, rfl, a, _, rfl, hS, fun p hp => ?_⟩
  obtain ⟨ms, hms⟩ := cut_ints ns none (some 3)
  rw [hms]
  refine ⟨p, rfl, ⟨_, SqL.of upd_same⟩, for_list (K := K) (a := p) (xs := ms.map V.int) (fun _ σ H' => H' = upd H p (.lst (ms.map V.int)) ∧ ∃ st nm, σ = [some (.ref a), some (.int (i : Int)), some (.int st), nm])
    ⟨rfl, _, _, rfl⟩ (fun _ σ H' _ h => by rw [h.1]; exact SqL.of upd_same) ?_ ?_⟩
  · rintro j x σ H' hx ⟨rfl, st, nm, rfl⟩
    obtain ⟨c, rfl⟩ : ∃ c, x = V.int c := by
      rw [List.getElem?_map] at hx
      cases e : ms[j]? with
      | none => rw [e] at hx; cases hx
      | some c => rw [e] at hx; exact ⟨c, (Option.some.inj hx).symm⟩
    exact ⟨_, rfl, _, _, rfl, rfl, cmul_r (by omega), _, rfl, _, _, rfl, rfl, _, _, rfl, rfl, by show (0 : Int) < 1000000007; decide, rfl, _, _, rfl⟩
  · rintro σ H' ⟨rfl, st, nm, rfl⟩
    exact ⟨_, rfl, q _ _ (Ex.new hp)⟩
def spPool : Sp := fun vs H Q _ => ∃ c : Int, vs = [.int c] ∧ ∀ p H', Ex H H' → H p = none → PoolAt H' p → Q (.ref p) H'
abbrev st_law_pool : Stmt := (topS 38)
theorem sc_law_pool : FnScope ["_law_cell_here", "_law_digits"] ["_law_cell_here"] (defScope st_law_pool) := ⟨rfl, rfl, rfl, by decide +kernel, rfl, by decide +kernel, by decide +kernel⟩
theorem ok_pool (T : Bi mg) (F : Df K mg "_law_pool" ["_law_cell_here"] st_law_pool) : Cl P w K mg base 1 "_law_pool" spPool := by
  refine F.ok (k := 0) sc_law_pool (fun vs H Q E h => ?_) (fun f cdv A outer s H vs Q E hr h => ?_)
  · obtain ⟨c, rfl, _⟩ := h
    rfl
  obtain ⟨c, rfl, q⟩ := h
  refine ⟨_, (pss_cons (ps_set (i := 1) sc_law_pool.nd rfl (Or.inl rfl) pe_int)
      (pss_cons (ps_if (PW.pt (pw_or (pt_cmpR op_lt (pv 0) pe_int (nomark _)) (pw_or1 (pt_cmpR op_ge (pv 0) (pe_op op_pow pe_int pe_int) (nomark _))))) (pss_one (ps_set (i := 1) sc_law_pool.nd rfl (Or.inl rfl) (pe_callB call_abs rfl T.abs (by decide +kernel) (pa_cons (pv 0) pa_nil)))) pss_nil)
      (pss_one (ps_ret (pe_lst (pa_cons (pe_op op_mod (pv 0) pe_int) (pa_cons (pv 1) (pa_cons pe_int pa_nil)))))))), ?_⟩
  have fin : ∀ g : Int, 0 ≤ g → tRet (tLst (tCons (tOp (rI (fun _ j => 0 < j) fun i j => .int (i % j)) (tVar 0) (tC (.int 1000000007))) (tCons (tVar 1) (tCons (tC (.int 0)) tNil)))) { nx := fun _ H' => Q .non H', rt := Q } [some (.int c), some (.int g)] H := by
    intro g hg
    refine ⟨_, rfl, _, _, rfl, rfl, by show (0 : Int) < 1000000007; decide, _, rfl, by show 3 ≤ sizeLine; decide, fun p hp => ?_⟩
    refine q p _ (Ex.new hp) hp ⟨c % 1000000007, g, 0, upd_same, by omega, by omega, hg⟩
  refine ⟨_, rfl, _, _, rfl, rfl, _, rfl, ?_⟩
  by_cases h : c < 0
  · rw [decide_eq_true h]
    refine ⟨_, rfl, _, rfl, ?_⟩
    exact fin _ (by rw [if_pos h]; omega)
  · rw [decide_eq_false h]
    refine ⟨_, rfl, _, _, rfl, rfl, ⟨by decide, by decide, by decide⟩, _, _, rfl, rfl, _, rfl, ?_⟩
    refine ite2 (fun _ => ?_) (fun _ => ?_)
    · refine ⟨_, rfl, _, rfl, ?_⟩
      exact fin _ (by rw [if_neg h]; omega)
    · exact fin 0 (Int.le_refl _)
def spDraw : Sp := fun vs H Q _ => ∃ (p : Addr) (m : Int), vs = [.ref p, .int m] ∧ PoolAt H p ∧ 0 < m ∧ m ≤ 100000 ∧ ∀ d H', Pl p H H' → 0 ≤ d → d < m → Q (.int d) H'
abbrev st_law_draw : Stmt := (topS 39)
theorem sc_law_draw : FnScope ["_law_pool_here", "_law_many", "_law_state", "_law_digit"] ["_law_pool_here", "_law_many"] (defScope st_law_draw) := ⟨rfl, rfl, rfl, by decide +kernel, rfl, by decide +kernel, by decide +kernel⟩
theorem ok_draw (T : Bi mg) (F : Df K mg "_law_draw" ["_law_pool_here", "_law_many"] st_law_draw) : Cl P w K mg base 1 "_law_draw" spDraw := by
  refine F.ok (k := 0) sc_law_draw (fun vs H Q E h => ?_) (fun f cdv A outer s H vs Q E hr h => ?_)
  · obtain ⟨p, m, rfl, _⟩ := h
    rfl
  obtain ⟨p, m, rfl, hp, hm, hm2, q⟩ := h
  have hp0 := hp
  obtain ⟨st, g, c, e, h0, h1, h2⟩ := hp
  refine ⟨_, (pss_cons (ps_asg (pe_op op_add (pe_ix ix_list (pv 0) pe_int (fun _ _ => rfl)) pe_int) (pg_sub (pv 0) pe_int set_list))
      (pss_cons (ps_set (i := 2) sc_law_draw.nd rfl (Or.inl rfl) (pe_ix ix_list (pv 0) pe_int (fun _ _ => rfl)))
      (pss_cons (ps_asg (pe_op op_mod (pe_op op_add (pe_op op_add (pe_op op_mul (pv 2) (pe_op op_add (pe_op op_mod (pv 2) pe_int) pe_int)) (pe_op op_mul pe_int (pe_ix ix_list (pv 0) pe_int (fun _ _ => rfl)))) pe_int) pe_int) (pg_sub (pv 0) pe_int set_list))
      (pss_cons (ps_if (pt_cmpR op_gt (pe_ix ix_list (pv 0) pe_int (fun _ _ => rfl)) pe_int (nomark _)) (pss_cons (ps_asg (pe_callB call_divmodW rfl T.dvm (by decide +kernel) (pa_cons (pe_ix ix_list (pv 0) pe_int (fun _ _ => rfl)) (pa_cons (pv 1) pa_nil))) (pg_tup rfl (pgs_cons (pg_sub (pv 0) pe_int set_list) (pgs_cons (pg_name (i := 3) sc_law_draw.nd rfl (Or.inl rfl)) pgs_nil))))
      (pss_one (ps_ret (pv 3)))) pss_nil)
      (pss_one (ps_ret (pe_op op_mod (pe_op op_fdiv (pe_ix ix_list (pv 0) pe_int (fun _ _ => rfl)) pe_int) (pv 1)))))))), ?_⟩
  refine ⟨_, rfl, p, _, 2, .int c, rfl, rfl, SqL.of e, at_of (j := 2) rfl rfl, _, _, rfl, rfl, _, rfl, p, _, 2, 2, rfl, rfl, e, rfl, ?_⟩
  refine ⟨_, rfl, p, _, 0, .int st, rfl, rfl, SqL.of upd_same, at_of (j := 0) rfl rfl, ?_⟩
  refine ⟨_, rfl, _, rfl, _, _, rfl, rfl, by show (0 : Int) < 46007; decide, _, _, rfl, rfl, _, _, rfl, rfl, cmul_l (by omega), _, rfl, p, _, 2, .int (c + 1), rfl, rfl, SqL.of upd_same, at_of (j := 2) rfl rfl, _, _, rfl, rfl, cmul_l (by omega), _, _, rfl, rfl,
    _, _, rfl, rfl, _, _, rfl, rfl, by show (0 : Int) < 1000000007; decide, _, rfl, p, _, 0, 0, rfl, rfl, upd_same, rfl, ?_⟩
  have hb : ∀ z : Int, 0 ≤ z % 1000000007 ∧ z % 1000000007 < 1000000007 := fun z => ⟨by omega, by omega⟩
  refine ⟨_, rfl, p, _, 1, .int g, rfl, rfl, SqL.of upd_same, at_of (j := 1) rfl rfl, _, _, rfl, rfl, _, rfl, ?_⟩
  refine ite2 (fun _ => ?_) (fun _ => ?_)
  · refine ⟨_, rfl, p, _, 1, .int g, rfl, rfl, SqL.of upd_same, at_of (j := 1) rfl rfl, _, rfl, g, m, rfl, ⟨hm, PyProof.noPylong_small (by omega)⟩, fun pt hpt => ?_⟩
    have hne : p ≠ pt := ne_of_none upd_same hpt
    refine ⟨pt, _, rfl, SqT.of upd_same, rfl, _, _, rfl, _, rfl, p, _, 1, 1, rfl, rfl, (by rw [upd_ne hne]; exact upd_same), rfl, _, _, rfl, rfl, ?_⟩
    refine ⟨_, rfl, q _ _ ⟨⟨_, g / m, c + 1, upd_same, (hb _).1, (hb _).2, Int.ediv_nonneg h2 (by omega)⟩, fun a o ha ho => ?_⟩ (Int.emod_nonneg _ (by omega)) (Int.emod_lt_of_pos _ hm)⟩
    have hpta : a ≠ pt := by
      rintro rfl
      rw [upd_ne ha, upd_ne ha, ho] at hpt
      cases hpt
    rw [upd_ne ha, upd_ne hpta, upd_ne ha, upd_ne ha]
    exact ho
  · refine ⟨_, rfl, p, _, 0, _, rfl, rfl, SqL.of upd_same, at_of (j := 0) rfl rfl, _, _, rfl, rfl, ⟨by decide, by decide⟩, _, rfl, _, _, rfl, rfl, hm, ?_⟩
    refine q _ _ ⟨⟨_, g, c + 1, upd_same, (hb _).1, (hb _).2, h2⟩, fun a o ha ho => ?_⟩ (Int.emod_nonneg _ (by omega)) (Int.emod_lt_of_pos _ hm)
    rw [upd_ne ha, upd_ne ha]
    exact ho
end
end RT
/-! the law's own words and texts -/
namespace RT
open PySem PySem.Spec PyProof.Rows L2 Evl
/-- text * int -/
theorem op_mulS {X : Cx} : OpR X (binaryOp .Mult) (fun x y H Q => ∃ z n, x = .str z ∧ y = .int n ∧ z.length ≤ 4095 ∧ 0 ≤ n ∧ n ≤ 4095 ∧ Q (.str (Txt.mul z n)) H) := by
  intro pins s σ H x y v u Q I rx ry h
  obtain ⟨z, n, rfl, rfl, h1, h2, h3, q⟩ := h
  obtain ⟨t, rfl⟩ := rx
  obtain ⟨t', rfl⟩ := ry
  exact SB.mul (mulOk_of 4095 4095 h1 (by omega) (by omega) (by decide) (by decide)) fun t' k => ⟨.str _, H, I.tok _, ⟨t', rfl⟩, q⟩
def notV : List Str := ["true", "false", "self"]
structure Wds (ws : List Str) (m : Nat) : Prop where
  len : ws.length = m
  ok : ∀ w ∈ ws, NmOk w
  nv : ∀ w ∈ ws, w ∉ notV
  nd : ws.Nodup
def wdsB (ws : List Str) : Bool := ws.all (fun w => isNm (tl w) && !decide (w ∈ notV)) && decide ws.Nodup
theorem Wds.of {ws : List Str} {m : Nat} (h : wdsB ws = true) (hl : ws.length = m) : Wds ws m := by
  unfold wdsB at h
  rw [Bool.and_eq_true, List.all_eq_true] at h
  refine ⟨hl, fun w hw => ?_, fun w hw => ?_, of_decide_eq_true h.2⟩
  · have := h.1 w hw
    rw [Bool.and_eq_true] at this
    exact this.1
  · have := h.1 w hw
    rw [Bool.and_eq_true] at this
    simpa using this.2
def menuL : List Str := ["data", "href", "text", "part", "page", "use", "for", "end", "else", "slot", "size", "has", "sum", "equal", "name", "x", "y", "items", "id", "link", "null", "by", "let", "if"]
def wds0 (b m : Nat) : List Str := (List.range m).map fun k => menuL.getD ((b + 5 * k) % 24) ""
def wds1 (b m : Nat) : List Str := (List.range m).map fun k => Txt.mul (S [97 + (b + 7 * k) % 26]) (((1 + k % 12 : Nat)) : Int)
theorem wds0_ok : ∀ b < 24, ∀ m < 8, wdsB (wds0 b m) = true := by decide +kernel
theorem wds1_ok : ∀ b < 24, ∀ m < 8, wdsB (wds1 b m) = true := by decide +kernel
def wds2 (pre suf : List Nat) (b m : Nat) : List Str := (List.range m).map fun k => S (pre ++ (97 + (b + 5 * k) % 26) :: suf)
def fixx (w : Str) : Str := if w ∈ notV then w ++ "x" else w
theorem low_letter (j : Nat) : low (97 + j % 26) = true := by
  have : j % 26 < 26 := Nat.mod_lt _ (by decide)
  simp [low]
  omega
theorem fixx_len {w : Str} (h : w ∈ notV) : (w ++ ("x" : Str)).length = w.length + 1 := by
  simp only [notV, List.mem_cons, List.not_mem_nil, or_false] at h
  rcases h with rfl | rfl | rfl <;> decide +kernel
theorem fixx_inj {a b : Str} (hl : a.length = b.length) (h : fixx a = fixx b) : a = b := by
  unfold fixx at h
  by_cases ha : a ∈ notV
  · rw [if_pos ha] at h
    by_cases hb : b ∈ notV
    · rw [if_pos hb] at h
      have la := fixx_len ha
      simp only [notV, List.mem_cons, List.not_mem_nil, or_false] at ha hb
      rcases ha with rfl | rfl | rfl <;> rcases hb with rfl | rfl | rfl <;> first | rfl | (exact absurd h (by decide +kernel))
    · rw [if_neg hb] at h
      have := fixx_len ha
      rw [h] at this
      omega
  · rw [if_neg ha] at h
    by_cases hb : b ∈ notV
    · rw [if_pos hb] at h
      have := fixx_len hb
      rw [← h] at this
      omega
    · rw [if_neg hb] at h
      exact h
theorem fixx_ok {w : Str} (h : NmOk w) : NmOk (fixx w) ∧ fixx w ∉ notV := by
  unfold fixx
  by_cases hw : w ∈ notV
  · rw [if_pos hw]
    simp only [notV, List.mem_cons, List.not_mem_nil, or_false] at hw
    rcases hw with rfl | rfl | rfl <;> exact ⟨show isNm _ = true by decide +kernel, by decide +kernel⟩
  · rw [if_neg hw]
    exact ⟨h, hw⟩
theorem wds2_ok {pre suf : List Nat} {b m : Nat} (hp : ∀ c ∈ pre, low c = true) (hs : ∀ c ∈ suf, low c = true) (hl : pre.length + suf.length ≤ 11) (hm : m ≤ 7) : Wds ((wds2 pre suf b m).map fixx) m := by
  have hlen : ∀ w ∈ wds2 pre suf b m, w.length = pre.length + suf.length + 1 := by
    intro w hw
    obtain ⟨k, _, rfl⟩ := List.mem_map.mp hw
    rw [S_len, List.length_append, List.length_cons]
    omega
  have hnm : ∀ w ∈ wds2 pre suf b m, NmOk w := by
    intro w hw
    have hlw := hlen w hw
    obtain ⟨k, _, rfl⟩ := List.mem_map.mp hw
    show isNm _ = true
    rw [S_len] at hlw
    unfold isNm
    rw [Bool.and_eq_true, Bool.and_eq_true, List.all_eq_true]
    refine ⟨⟨decide_eq_true ?_, decide_eq_true ?_⟩, fun c hc => ?_⟩
    · show 0 < (pre ++ (97 + (b + 5 * k) % 26) :: suf).length
      omega
    · show (pre ++ (97 + (b + 5 * k) % 26) :: suf).length < 13
      omega
    · have hc : c ∈ pre ++ (97 + (b + 5 * k) % 26) :: suf := hc
      rcases List.mem_append.mp hc with h | h
      · exact hp c h
      · rcases List.mem_cons.mp h with h | h
        · rw [h]; exact low_letter _
        · exact hs c h
  have hnd : (wds2 pre suf b m).Nodup := by
    unfold wds2
    rw [List.Nodup, List.pairwise_map]
    refine List.Pairwise.imp_of_mem (R := fun a b => a < b) (fun {j k} hj hk hlt e => ?_) List.pairwise_lt_range
    have hj' := List.mem_range.mp hj
    have hk' := List.mem_range.mp hk
    have e1 := List.append_cancel_left (SX.S_inj e)
    have e2 := (List.cons.inj e1).1
    omega
  refine ⟨by simp [wds2], fun w hw => ?_, fun w hw => ?_, ?_⟩
  · obtain ⟨u, hu, rfl⟩ := List.mem_map.mp hw
    exact (fixx_ok (hnm u hu)).1
  · obtain ⟨u, hu, rfl⟩ := List.mem_map.mp hw
    exact (fixx_ok (hnm u hu)).2
  · rw [List.Nodup, List.pairwise_map]
    exact List.Pairwise.imp_of_mem (fun {a b} ha hb hne e => hne (fixx_inj (by rw [hlen a ha, hlen b hb]) e)) hnd
theorem S_app (a b : List Nat) : S a ++ S b = S (a ++ b) := by
  apply TL.ext_tl
  show (S a ++ S b).cps.toList = a ++ b
  show (a.toArray ++ b.toArray).toList = a ++ b
  simp
theorem one_codes : ∀ {acc : List V}, (∀ (i : Nat) v, acc[i]? = some v → ∃ c, low c = true ∧ v = .str (S [c])) → ∃ cs : List Nat, acc = (cs.map fun c => S [c]).map V.str ∧ (∀ c ∈ cs, low c = true) ∧ cs.length = acc.length
  | [], _ => ⟨[], rfl, by simp, rfl⟩
  | x :: r, h => by
    obtain ⟨c, h1, rfl⟩ := h 0 x rfl
    obtain ⟨cs, e, h2, h3⟩ := one_codes (acc := r) fun i v hv => h (i + 1) v (by simpa using hv)
    refine ⟨c :: cs, by rw [e]; rfl, fun z hz => ?_, by simp [h3]⟩
    rcases List.mem_cons.mp hz with q | q
    · rw [q]; exact h1
    · exact h2 z q
theorem cat_ones (cs : List Nat) : cat (cs.map fun c => S [c]) = S cs := by
  unfold cat
  congr 1
  induction cs with
  | nil => rfl
  | cons c r ih =>
    rw [List.map_cons, List.map_cons, List.flatten_cons, ih]
    rfl
theorem cut_to (L : List Nat) {a : Nat} (h : a ≤ L.length) : cutS (S L) none (some (a : Int)) = S (L.take a) := by
  unfold cutS
  rw [S_len, HT.sIx_none, HT.sIx_nat, S_tl, Nat.min_eq_left h]
  simp
theorem cut_from (L : List Nat) {a : Nat} (h : a ≤ L.length) : cutS (S L) (some (a : Int)) none = S (L.drop a) := by
  unfold cutS
  rw [S_len, HT.sIx_none, HT.sIx_nat, S_tl, Nat.min_eq_left h]
  show S ((L.drop a).take (L.length - a)) = _
  rw [List.take_of_length_le (by simp)]
section
variable {P : Program} {w : World} {K : PySem.W.Frag} {mg : Str → Option Value} {base : Heap} {k : Nat}
def spWords : Sp := fun vs H Q _ => ∃ (p : Addr) (m : Nat), vs = [.ref p, .int (m : Int)] ∧ PoolAt H p ∧ m ≤ 7 ∧ ∀ D H' (ws : List Str), Pl p H H' → H D = none → H' D = some (.lst (ws.map V.str)) → Wds ws m → Q (.ref D) H'
abbrev st_law_words : Stmt := (topS 40)
theorem sc_law_words : FnScope ["_law_pool_here", "_law_many", "_law_letters", "_law_menu", "_law_way", "_law_begin", "_law_stem", "_law_at_here", "_law_found", "_law_k", "_law_word"] ["_law_pool_here", "_law_many"] (defScope st_law_words) := ⟨rfl, rfl, rfl, by decide +kernel, rfl, by decide +kernel, by decide +kernel⟩
theorem ok_words (T : Bi mg) (F : Df K mg "_law_words" ["_law_pool_here", "_law_many"] st_law_words) (c_law_draw : Cl P w K mg base 1 "_law_draw" spDraw) : Cl P w K mg base 2 "_law_words" spWords := by
  refine F.ok (k := 1) sc_law_words (fun vs H Q E h => ?_) (fun f cdv A outer s H vs Q E hr h => ?_)
  · obtain ⟨p, m, rfl, _⟩ := h
    rfl
  obtain ⟨p, m, rfl, hp, hm, q⟩ := h
  refine ⟨_, (pss_cons (ps_set (i := 2) sc_law_words.nd rfl (Or.inr rfl) pe_str)
      (pss_cons (ps_set (i := 3) sc_law_words.nd rfl (Or.inr rfl) (pe_lst (pa_cons pe_str (pa_cons pe_str (pa_cons pe_str (pa_cons pe_str (pa_cons pe_str (pa_cons pe_str (pa_cons pe_str (pa_cons pe_str (pa_cons pe_str (pa_cons pe_str (pa_cons pe_str (pa_cons pe_str pa_nil))))))))))))))
      (pss_cons (ps_set (i := 3) sc_law_words.nd rfl (Or.inr rfl) (pe_op op_cat (pv 3) (pe_lst (pa_cons pe_str (pa_cons pe_str (pa_cons pe_str (pa_cons pe_str (pa_cons pe_str (pa_cons pe_str (pa_cons pe_str (pa_cons pe_str (pa_cons pe_str (pa_cons pe_str (pa_cons pe_str (pa_cons pe_str pa_nil)))))))))))))))
      (pss_cons (ps_asg (pe_tup (pa_cons (pc c_law_draw hr (by omega) rfl (pa_cons (pv 0) (pa_cons pe_int pa_nil))) (pa_cons (pc c_law_draw hr (by omega) rfl (pa_cons (pv 0) (pa_cons pe_int pa_nil))) pa_nil))) (pg_tup rfl (pgs_cons (pg_name (i := 4) sc_law_words.nd rfl (Or.inl rfl)) (pgs_cons (pg_name (i := 5) sc_law_words.nd rfl (Or.inr rfl)) pgs_nil))))
      (pss_cons (ps_if (pt_cmpR op_eq (pv 4) pe_int (nomark _)) (pss_one (ps_ret (pe_lc (own := [("_law_k", 9)]) (g := gName 9) (te := tOp (rIxL K) (tVar 3) _) (tt := tYes) rfl sc_law_words.nd (pi_range1 rfl T.rng (pa_cons (pv 1) pa_nil)) (blkOk_by (own := [("_law_k", 9)]) (N := ["_law_pool_here", "_law_many", "_law_letters", "_law_menu", "_law_way", "_law_begin", "_law_stem", "_law_at_here", "_law_found", "_law_k", "_law_word"]) (sc := defScope st_law_words) (by decide +kernel)) (fun _ _ _ _ _ => (pg_name (i := 9) sc_law_words.nd rfl (Or.inl rfl))) (fun _ _ _ _ _ => pts_nil) (fun _ _ _ _ _ => (pe_ix ix_list (pv 3) (pe_op op_mod (pe_op op_add (pv 5) (pe_op op_mul pe_int (pv 9))) pe_int) (fun _ _ => rfl)))))) pss_nil)
      (pss_cons (ps_if (pt_cmpR op_eq (pv 4) pe_int (nomark _)) (pss_one (ps_ret (pe_lc (own := [("_law_k", 9)]) (g := gName 9) (tt := tYes) rfl sc_law_words.nd (pi_range1 rfl T.rng (pa_cons (pv 1) pa_nil)) (blkOk_by (own := [("_law_k", 9)]) (N := ["_law_pool_here", "_law_many", "_law_letters", "_law_menu", "_law_way", "_law_begin", "_law_stem", "_law_at_here", "_law_found", "_law_k", "_law_word"]) (sc := defScope st_law_words) (by decide +kernel)) (fun _ _ _ _ _ => (pg_name (i := 9) sc_law_words.nd rfl (Or.inl rfl))) (fun _ _ _ _ _ => pts_nil) (fun _ _ _ _ _ => (pe_op op_mulS (pe_ix ix_str (pv 2) (pe_op op_mod (pe_op op_add (pv 5) (pe_op op_mul pe_int (pv 9))) pe_int) (fun _ _ => rfl)) (pe_op op_add pe_int (pe_op op_mod (pv 9) pe_int))))))) pss_nil)
      (pss_cons (ps_set (i := 6) sc_law_words.nd rfl (Or.inr rfl) (pe_join pe_str (pe_lc (own := [("_law_k", 9)]) (g := gName 9) (tt := tYes) rfl sc_law_words.nd (pi_range1 rfl T.rng (pa_cons (pc c_law_draw hr (by omega) rfl (pa_cons (pv 0) (pa_cons pe_int pa_nil))) pa_nil)) (blkOk_by (own := [("_law_k", 9)]) (N := ["_law_pool_here", "_law_many", "_law_letters", "_law_menu", "_law_way", "_law_begin", "_law_stem", "_law_at_here", "_law_found", "_law_k", "_law_word"]) (sc := defScope st_law_words) (by decide +kernel)) (fun _ _ _ _ _ => (pg_name (i := 9) sc_law_words.nd rfl (Or.inl rfl))) (fun _ _ _ _ _ => pts_nil) (fun _ _ _ _ _ => (pe_ix ix_str (pv 2) (pc c_law_draw hr (by omega) rfl (pa_cons (pv 0) (pa_cons pe_int pa_nil))) (fun _ _ => rfl))))))
      (pss_cons (ps_set (i := 7) sc_law_words.nd rfl (Or.inr rfl) (pc c_law_draw hr (by omega) rfl (pa_cons (pv 0) (pa_cons (pe_op op_add (pe_callB call_len_str rfl T.len PySem.boot_len (pa_cons (pv 6) pa_nil)) pe_int) pa_nil))))
      (pss_cons (ps_setLc (i := 8) (own := [("_law_k", 9)]) (g := gName 9) (tt := tYes) rfl sc_law_words.nd rfl rfl (sw_true rfl rfl rfl (by decide +kernel)) (pi_range1 rfl T.rng (pa_cons (pv 1) pa_nil)) (blkOk_by (own := [("_law_k", 9)]) (N := ["_law_pool_here", "_law_many", "_law_letters", "_law_menu", "_law_way", "_law_begin", "_law_stem", "_law_at_here", "_law_found", "_law_k", "_law_word"]) (sc := defScope st_law_words) (by decide +kernel)) (fun _ _ _ _ _ => (pg_name (i := 9) sc_law_words.nd rfl (Or.inl rfl))) (fun _ _ _ _ _ => pts_nil) (fun _ _ _ _ _ => (pe_op op_add_str (pe_op op_add_str (pe_slice sl_str (pv 6) po_none (po_some (pv 7))) (pe_ix ix_str (pv 2) (pe_op op_mod (pe_op op_add (pv 5) (pe_op op_mul pe_int (pv 9))) pe_int) (fun _ _ => rfl))) (pe_slice sl_str (pv 6) (po_some (pv 7)) po_none))))
      (pss_one (ps_ret (pe_lc (own := [("_law_word", 10)]) (g := gName 10) (te := tIf (tTest (tOp (rIn K false) (tVar 10) (tLst (tCons (tC (.str "true")) (tCons (tC (.str "false")) (tCons (tC (.str "self")) tNil)))))) (tOp _ (tVar 10) (tC (.str "x"))) (tVar 10)) (tt := tYes) rfl sc_law_words.nd (pi_list (pv 8)) (blkOk_by (own := [("_law_word", 10)]) (N := ["_law_pool_here", "_law_many", "_law_letters", "_law_menu", "_law_way", "_law_begin", "_law_stem", "_law_at_here", "_law_found", "_law_k", "_law_word"]) (sc := defScope st_law_words) (by decide +kernel)) (fun _ _ _ _ _ => (pg_name (i := 10) sc_law_words.nd rfl (Or.inl rfl))) (fun _ _ _ _ _ => pts_nil) (fun _ _ _ _ _ => (pe_ifExp (pt_cmpR op_in_seq (pv 10) (pe_lst (pa_cons pe_str (pa_cons pe_str (pa_cons pe_str pa_nil)))) rfl) (pe_op op_add_str (pv 10) pe_str) (pv 10))))))))))))))), ?_⟩
  refine ⟨by show 12 ≤ sizeLine; decide, fun p1 hp1 => ⟨_, rfl, by show 12 ≤ sizeLine; decide, fun p2 hp2 => ?_⟩⟩
  have n12 : p1 ≠ p2 := ne_of_none upd_same hp2
  refine ⟨p1, p2, _, _, rfl, rfl, (by rw [upd_ne n12]; exact upd_same), upd_same, by show 12 + 12 ≤ sizeLine; decide, fun p3 hp3 => ?_⟩
  have e3 := (Ex.new (o := _) hp1).trans ((Ex.new hp2).trans (Ex.new (o := .lst (menuL.map V.str)) hp3))
  have pl3 := Pl.of_ex hp e3
  have np3 : p3 ≠ p := by
    obtain ⟨_, _, _, z, _⟩ := (Pl.of_ex hp ((Ex.new hp1).trans (Ex.new hp2))).pool
    exact (ne_of_none z hp3).symm
  refine ⟨_, rfl, p, 3, rfl, pl3.pool, by decide, by decide, fun way H4 pl4 w0 w1 => ⟨_, rfl, p, 24, rfl, pl4.pool, by decide, by decide, fun b0 H5 pl5 b1 b2 => ?_⟩⟩
  refine ⟨by show 2 ≤ sizeLine; decide, fun p4 hp4 => ⟨p4, _, rfl, SqT.of upd_same, rfl, _, _, rfl, _, _, rfl, rfl, ?_⟩⟩
  have plc := ((pl3.trans pl4).trans pl5).ex (Ex.new (o := .tup [.int way, .int b0]) hp4)
  have hmenu : (upd H5 p4 (.tup [.int way, .int b0])) p3 = some (.lst (menuL.map V.str)) := (Ex.new hp4) _ _ (pl5.keep _ _ np3 (pl4.keep _ _ np3 upd_same))
  obtain ⟨b, rfl⟩ := Int.eq_ofNat_of_zero_le b1
  generalize upd H5 p4 (.tup [.int way, .int (b : Int)]) = Hc at plc hmenu ⊢
  have hb : b < 24 := by omega
  have hlet : ∀ j < 26, ("abcdefghijklmnopqrstuvwxyz" : Str).cps.toList[j]? = some (97 + j) := by decide +kernel
  refine ⟨_, rfl, rfl, _, rfl, ?_⟩
  refine ite2 (fun _ => ?_) (fun _ => ?_)
  · refine ⟨_, rfl, _, rfl, by omega, by omega, fun D hD => lc_gen (walk_range (n := m)) (fun H' => Ex Hc H') (fun i v _ => ∃ n, (wds0 b m)[i]? = some n ∧ v = .str n) (Ex.new hD) (fun H' o e => e.mut hD) (fun H' e => trivial) (fun i v H' H'' h _ => h) (szl (by omega)) ?_ ?_⟩
    · rintro i x H' H'' C hi fr hacc ⟨rfl, rfl⟩ kk
      have hmn : ∀ j < 24, menuL[j]? = some (menuL.getD j "") := by decide +kernel
      refine ⟨rfl, _, rfl, _, rfl, _, rfl, _, _, rfl, rfl, cmul_l (by omega), _, _, rfl, rfl, _, _, rfl, rfl, by show (0 : Int) < 24; decide, p3, _, _, .str (menuL.getD ((b + 5 * i) % 24) ""), rfl, rfl, SqL.of (fr _ _ hmenu), at_of (j := (b + 5 * i) % 24) (by show ((b : Int) + 5 * (0 + (i : Int))) % 24 = _; omega) ?_, kk _ _ fr (Im.refl _) rfl ⟨_, ?_, rfl⟩⟩
      · rw [List.getElem?_map, hmn _ (Nat.mod_lt _ (by decide))]
        rfl
      · simp [wds0, hi]
    · intro H' acc fr hacc hl hall
      have e : acc = (wds0 b m).map V.str := strs_of (by simp [wds0, hl]) hall
      subst e
      exact q D H' _ (plc.ex fr) (Pl.free hp plc hD) hacc (Wds.of (wds0_ok b hb m (by omega)) (by simp [wds0]))
  refine ⟨_, rfl, rfl, _, rfl, ?_⟩
  refine ite2 (fun _ => ?_) (fun _ => ?_)
  · refine ⟨_, rfl, _, rfl, by omega, by omega, fun D hD => lc_gen (walk_range (n := m)) (fun H' => Ex Hc H') (fun i v _ => ∃ n, (wds1 b m)[i]? = some n ∧ v = .str n) (Ex.new hD) (fun H' o e => e.mut hD) (fun H' e => trivial) (fun i v H' H'' h _ => h) (szl (by omega)) ?_ ?_⟩
    · rintro i x H' H'' C hi fr hacc ⟨rfl, rfl⟩ kk
      refine ⟨rfl, _, rfl, _, rfl, _, rfl, _, _, rfl, rfl, cmul_l (by omega), _, _, rfl, rfl, _, _, rfl, rfl, by show (0 : Int) < 26; decide, _, _, 97 + (b + 7 * i) % 26, rfl, rfl, sz (by decide), ?_, _, rfl, _, _, rfl, rfl, by show (0 : Int) < 12; decide, _, _, rfl, rfl, _, _, rfl, rfl,
        by show 1 ≤ 4095; decide, ?_, ?_, kk _ _ fr (Im.refl _) rfl ⟨_, ?_, rfl⟩⟩
      · show atI _ (((b : Int) + 7 * (0 + (i : Int))) % 26) = _
        rw [show ((b : Int) + 7 * (0 + (i : Int))) % 26 = (((b + 7 * i) % 26 : Nat) : Int) by omega]
        exact atI_nat (hlet _ (Nat.mod_lt _ (by decide)))
      · show (0 : Int) ≤ 1 + (0 + (i : Int)) % 12
        omega
      · show 1 + (0 + (i : Int)) % 12 ≤ (4095 : Int)
        omega
      · show (wds1 b m)[i]? = some (Txt.mul (S [97 + (b + 7 * i) % 26]) (1 + (0 + (i : Int)) % 12))
        rw [show 1 + (0 + (i : Int)) % 12 = ((1 + i % 12 : Nat) : Int) by omega]
        simp [wds1, hi]
    · intro H' acc fr hacc hl hall
      have e : acc = (wds1 b m).map V.str := strs_of (by simp [wds1, hl]) hall
      subst e
      exact q D H' _ (plc.ex fr) (Pl.free hp plc hD) hacc (Wds.of (wds1_ok b hb m (by omega)) (by simp [wds1]))
  refine ⟨⟨_, rfl⟩, _, rfl, p, 12, rfl, plc.pool, by decide, by decide, fun d0 H6 pl6 d1 d2 => ?_⟩
  obtain ⟨d, rfl⟩ := Int.eq_ofNat_of_zero_le d1
  refine ⟨_, rfl, by omega, by omega, fun D hD => lc_gen (walk_range (n := d)) (fun H' => Pl p H6 H') (fun i v _ => ∃ c, low c = true ∧ v = .str (S [c])) (Pl.new pl6.pool (Pl.refl pl6.pool) hD) (fun H' o e => e.mut pl6.pool hD) (fun H' e => trivial) (fun i v H' H'' h _ => h) (szl (by omega)) ?_ ?_⟩
  · rintro i x H' H'' C hi fr hacc ⟨rfl, rfl⟩ kk
    refine ⟨rfl, _, rfl, _, rfl, p, 26, rfl, fr.pool, by decide, by decide, fun c0 H7 pl7 c1 c2 => ?_⟩
    obtain ⟨c, rfl⟩ := Int.eq_ofNat_of_zero_le c1
    refine ⟨_, _, 97 + c, rfl, rfl, sz (by decide), atI_nat (hlet c (by omega)), kk _ _ (fr.trans pl7) (pl7.im fr.pool) (pl_at pl7 ?_ hacc) ⟨97 + c, ?_, rfl⟩⟩
    · obtain ⟨_, _, _, z, _⟩ := pl6.pool
      exact (ne_of_none z hD).symm
    · simp [low]; omega
  · intro H' acc fr hacc hl hall
    obtain ⟨cs, rfl, hlow, hcl⟩ := one_codes hall
    have hcs : cs.length ≤ 11 := by omega
    have pl7 := (plc.trans pl6).trans fr
    refine ⟨_, D, cs.map (fun c => S [c]), rfl, rfl, .inl (SqL.of hacc), ?_, ?_⟩
    · have h1 := sum_le (n := 1) (l := cs.map fun c => S [c]) (fun x hx => by obtain ⟨c, _, rfl⟩ := List.mem_map.mp hx; exact Nat.le_refl _)
      rw [List.length_map] at h1 ⊢
      rw [show (("" : Str)).length = 0 from rfl]
      omega
    have hj : Txt.join ("" : Str) (cs.map fun c => S [c]) = S cs := by rw [join_cat, cat_ones]
    refine ⟨_, rfl, _, rfl, _, rfl, ?_, _, _, rfl, rfl, p, _, rfl, fr.pool, ?_, ?_, fun a0 H8 pl8 a1 a2 => ?_⟩
    · rw [hj, S_len]; exact sz (by omega)
    · show (0 : Int) < _ + 1
      omega
    · show ((Txt.join ("" : Str) (cs.map fun c => S [c])).length : Int) + 1 ≤ 100000
      rw [hj, S_len]
      omega
    obtain ⟨a, rfl⟩ := Int.eq_ofNat_of_zero_le a1
    have ha : a ≤ cs.length := by
      have : (a : Int) < ((Txt.join ("" : Str) (cs.map fun c => S [c])).length : Int) + 1 := a2
      rw [hj, S_len] at this
      omega
    have pl8' := pl7.trans pl8
    refine ⟨_, rfl, _, rfl, by omega, by omega, fun D2 hD2 => lc_gen (walk_range (n := m)) (fun H' => Ex H8 H') (fun i v _ => ∃ n, (wds2 (cs.take a) (cs.drop a) b m)[i]? = some n ∧ v = .str n) (Ex.new hD2) (fun H' o e => e.mut hD2) (fun H' e => trivial) (fun i v H' H'' h _ => h) (szl (by omega)) ?_ ?_⟩
    · rintro i x H' H'' C hi fr2 hacc2 ⟨rfl, rfl⟩ kk
      refine ⟨rfl, _, rfl, _, rfl, _, rfl, _, rfl, ?_, _, rfl, _, rfl, _, rfl, _, _, rfl, rfl, cmul_l (by omega), _, _, rfl, rfl, _, _, rfl, rfl, by show (0 : Int) < 26; decide, _, _, 97 + (b + 5 * i) % 26, rfl, rfl, sz (by decide), ?_, _, _, rfl, rfl, ?_, _, rfl, _, rfl, _, rfl, _, rfl, ?_, _, _, rfl, rfl, ?_, kk _ _ fr2 (Im.refl _) rfl ⟨_, ?_, rfl⟩⟩
      · rw [hj, S_len]; exact sz (by omega)
      · show atI _ (((b : Int) + 5 * (0 + (i : Int))) % 26) = _
        rw [show ((b : Int) + 5 * (0 + (i : Int))) % 26 = (((b + 5 * i) % 26 : Nat) : Int) by omega]
        exact atI_nat (hlet _ (Nat.mod_lt _ (by decide)))
      · rw [hj, cut_to cs ha, S_len, List.length_take]
        show min a cs.length + 1 ≤ sizeLine
        exact sz (by omega)
      · rw [hj, S_len]; exact sz (by omega)
      · rw [hj, cut_to cs ha, cut_from cs ha]
        show (S (cs.take a) ++ S [97 + (b + 5 * i) % 26]).length + _ ≤ _
        rw [S_app, S_len, S_len, List.length_append, List.length_take, List.length_drop]
        show min a cs.length + 1 + (cs.length - a) ≤ sizeLine
        exact sz (by omega)
      · rw [hj, cut_to cs ha, cut_from cs ha]
        show _ = some ((S (cs.take a) ++ S [97 + (b + 5 * i) % 26]) ++ S (cs.drop a))
        rw [S_app, S_app]
        simp [wds2, hi]
    · intro H9 acc2 fr2 hacc2 hl2 hall2
      have e : acc2 = (wds2 (cs.take a) (cs.drop a) b m).map V.str := strs_of (by simp [wds2, hl2]) hall2
      subst e
      have hws := wds2_ok (pre := cs.take a) (suf := cs.drop a) (b := b) (m := m) (fun c hc => hlow c (List.mem_of_mem_take hc)) (fun c hc => hlow c (List.mem_of_mem_drop hc)) (by rw [List.length_take, List.length_drop]; omega) hm
      generalize hW : wds2 (cs.take a) (cs.drop a) b m = W at hacc2 hws
      have hWl : W.length = m := by have := hws.len; simpa using this
      have hWs : ∀ x ∈ W, x.length ≤ 12 := by
        rw [← hW]
        intro x hx
        obtain ⟨k, _, rfl⟩ := List.mem_map.mp hx
        rw [S_len, List.length_append, List.length_cons, List.length_take, List.length_drop]
        omega
      have pl9 := pl8'.ex fr2
      refine ⟨_, rfl, D2, rfl, ⟨_, SqL.of hacc2⟩, fun D3 hD3 => lc_gen (walk_list (a := D2) (xs := W.map V.str)) (fun H' => Ex H9 H') (fun i v _ => ∃ n, (W.map fixx)[i]? = some n ∧ v = .str n) (Ex.new hD3) (fun H' o e => e.mut hD3) (fun H' e => SqL.of (e _ _ hacc2)) (fun i v H' H'' h _ => h) (szl (by simp; omega)) ?_ ?_⟩
      · rintro i x H' H'' C hi fr3 hacc3 ⟨rfl, hx⟩ kk
        obtain ⟨n, hn, rfl⟩ : ∃ n, W[i]? = some n ∧ x = V.str n := by
          rw [List.getElem?_map] at hx
          cases e : W[i]? with
          | none => rw [e] at hx; cases hx
          | some n => rw [e] at hx; exact ⟨n, rfl, (Option.some.inj hx).symm⟩
        have hfx : (W.map fixx)[i]? = some (fixx n) := by rw [List.getElem?_map, hn]; rfl
        refine ⟨rfl, _, rfl, by show 3 ≤ sizeLine; decide, fun p5 hp5 => ⟨p5, _, rfl, .inl (SqL.of upd_same), rfl, rfl, _, rfl, ?_⟩⟩
        have ex5 := Ex.new (o := .lst [.str "true", .str "false", .str "self"]) hp5
        show if inV (V.str n) (notV.map V.str) = true then _ else _
        rw [inV_strs]
        by_cases hin : n ∈ notV
        · rw [decide_eq_true hin]
          refine iteT ?_
          refine ⟨_, rfl, _, _, rfl, rfl, ?_, kk _ _ (fr3.trans ex5) (Im.ex ex5) (ex_at ex5 hacc3) ⟨_, hfx, ?_⟩⟩
          · have := hWs n (List.mem_of_getElem? hn)
            show n.length + 1 ≤ sizeLine
            exact sz (by omega)
          · unfold fixx
            rw [if_pos hin]
        · rw [decide_eq_false hin]
          refine iteF ?_
          refine ⟨_, rfl, kk _ _ (fr3.trans ex5) (Im.ex ex5) (ex_at ex5 hacc3) ⟨_, hfx, ?_⟩⟩
          unfold fixx
          rw [if_neg hin]
      · intro H10 acc3 fr3 hacc3 hl3 hall3
        have e : acc3 = (W.map fixx).map V.str := strs_of (by simp at hl3 ⊢; omega) hall3
        subst e
        exact q D3 H10 _ (pl9.ex fr3) (Pl.free hp pl9 hD3) hacc3 hws
end
end RT
/-! the law's own texts -/
namespace RT
open PySem PySem.Spec PyProof.Rows L2 Evl
def charL : List Str := ["", "a", "A b", "<", "&", "&lt;", "\"", "~", "/", "?a=1;", "\\", "\n", "{x}", "}", "</p>", "'", "data", "0", "-7"]
theorem one_any : ∀ {acc : List V}, (∀ (i : Nat) v, acc[i]? = some v → ∃ c, v = .str (S [c])) → ∃ cs : List Nat, acc = (cs.map fun c => S [c]).map V.str ∧ cs.length = acc.length
  | [], _ => ⟨[], rfl, rfl⟩
  | x :: r, h => by
    obtain ⟨c, rfl⟩ := h 0 x rfl
    obtain ⟨cs, e, h3⟩ := one_any (acc := r) fun i v hv => h (i + 1) v (by simpa using hv)
    exact ⟨c :: cs, by rw [e]; rfl, by simp [h3]⟩
section
variable {P : Program} {w : World} {K : PySem.W.Frag} {mg : Str → Option Value} {base : Heap} {k : Nat}
def spChars : Sp := fun vs H Q _ => ∃ (p : Addr), vs = [.ref p] ∧ PoolAt H p ∧ ∀ (x : Str) H', Pl p H H' → x.length ≤ 16 → Q (.str x) H'
abbrev st_law_chars : Stmt := (topS 41)
theorem sc_law_chars : FnScope ["_law_pool_here", "_law_menu", "_law_way", "_law_signs", "_law_k"] ["_law_pool_here"] (defScope st_law_chars) := ⟨rfl, rfl, rfl, by decide +kernel, rfl, by decide +kernel, by decide +kernel⟩
theorem ok_chars (T : Bi mg) (F : Df K mg "_law_chars" ["_law_pool_here"] st_law_chars) (c_law_draw : Cl P w K mg base 1 "_law_draw" spDraw) : Cl P w K mg base 2 "_law_chars" spChars := by
  refine F.ok (k := 1) sc_law_chars (fun vs H Q E h => ?_) (fun f cdv A outer s H vs Q E hr h => ?_)
  · obtain ⟨p, rfl, _⟩ := h
    rfl
  obtain ⟨p, rfl, hp, q⟩ := h
  refine ⟨_, (pss_cons (ps_set (i := 1) sc_law_chars.nd rfl (Or.inl rfl) (pe_lst (pa_cons pe_str (pa_cons pe_str (pa_cons pe_str (pa_cons pe_str (pa_cons pe_str (pa_cons pe_str (pa_cons pe_str (pa_cons pe_str (pa_cons pe_str (pa_cons pe_str (pa_cons pe_str (pa_cons pe_str (pa_cons pe_str (pa_cons pe_str pa_nil))))))))))))))))
      (pss_cons (ps_set (i := 1) sc_law_chars.nd rfl (Or.inl rfl) (pe_op op_cat (pv 1) (pe_lst (pa_cons pe_str (pa_cons pe_str (pa_cons pe_str (pa_cons pe_str (pa_cons pe_str pa_nil))))))))
      (pss_cons (ps_set (i := 2) sc_law_chars.nd rfl (Or.inl rfl) (pc c_law_draw hr (by omega) rfl (pa_cons (pv 0) (pa_cons pe_int pa_nil))))
      (pss_cons (ps_if (pt_cmpR op_eq (pv 2) pe_int (nomark _)) (pss_one (ps_ret (pe_ix ix_list (pv 1) (pc c_law_draw hr (by omega) rfl (pa_cons (pv 0) (pa_cons pe_int pa_nil))) (fun _ _ => rfl)))) pss_nil)
      (pss_cons (ps_if (pt_cmpR op_eq (pv 2) pe_int (nomark _)) (pss_one (ps_ret (pe_op op_add_str (pe_ix ix_list (pv 1) (pc c_law_draw hr (by omega) rfl (pa_cons (pv 0) (pa_cons pe_int pa_nil))) (fun _ _ => rfl)) (pe_ix ix_list (pv 1) (pc c_law_draw hr (by omega) rfl (pa_cons (pv 0) (pa_cons pe_int pa_nil))) (fun _ _ => rfl))))) pss_nil)
      (pss_cons (ps_set (i := 3) sc_law_chars.nd rfl (Or.inr rfl) pe_str)
      (pss_one (ps_ret (pe_join pe_str (pe_lc (own := [("_law_k", 4)]) (g := gName 4) (tt := tYes) rfl sc_law_chars.nd (pi_range1 rfl T.rng (pa_cons (pc c_law_draw hr (by omega) rfl (pa_cons (pv 0) (pa_cons pe_int pa_nil))) pa_nil)) (blkOk_by (own := [("_law_k", 4)]) (N := ["_law_pool_here", "_law_menu", "_law_way", "_law_signs", "_law_k"]) (sc := defScope st_law_chars) (by decide +kernel)) (fun _ _ _ _ _ => (pg_name (i := 4) sc_law_chars.nd rfl (Or.inl rfl))) (fun _ _ _ _ _ => pts_nil) (fun _ _ _ _ _ => (pe_ix ix_str (pv 3) (pc c_law_draw hr (by omega) rfl (pa_cons (pv 0) (pa_cons pe_int pa_nil))) (fun _ _ => rfl))))))))))))), ?_⟩
  refine ⟨by show 14 ≤ sizeLine; decide, fun p1 hp1 => ⟨_, rfl, by show 5 ≤ sizeLine; decide, fun p2 hp2 => ?_⟩⟩
  have n12 : p1 ≠ p2 := ne_of_none upd_same hp2
  refine ⟨p1, p2, _, _, rfl, rfl, (by rw [upd_ne n12]; exact upd_same), upd_same, by show 14 + 5 ≤ sizeLine; decide, fun p3 hp3 => ?_⟩
  have e3 := (Ex.new (o := _) hp1).trans ((Ex.new hp2).trans (Ex.new (o := .lst (charL.map V.str)) hp3))
  have pl3 := Pl.of_ex hp e3
  have np3 : p3 ≠ p := by
    obtain ⟨_, _, _, z, _⟩ := (Pl.of_ex hp ((Ex.new hp1).trans (Ex.new hp2))).pool
    exact (ne_of_none z hp3).symm
  refine ⟨_, rfl, p, 3, rfl, pl3.pool, by decide, by decide, fun way H4 pl4 w0 w1 => ?_⟩
  have hmenu : H4 p3 = some (.lst (charL.map V.str)) := pl4.keep _ _ np3 upd_same
  have hch : ∀ j < 19, ∃ x : Str, (charL.map V.str)[j]? = some (.str x) ∧ x.length ≤ 5 := by
    have h1 : ∀ j < 19, charL[j]? = some (charL.getD j "") ∧ (charL.getD j "").length ≤ 5 := by decide +kernel
    intro j hj
    exact ⟨_, by rw [List.getElem?_map, (h1 j hj).1]; rfl, (h1 j hj).2⟩
  have plc := pl3.trans pl4
  refine ⟨_, rfl, rfl, _, rfl, ?_⟩
  refine ite2 (fun _ => ?_) (fun _ => ?_)
  · refine ⟨_, rfl, _, rfl, p, 19, rfl, pl4.pool, by decide, by decide, fun d0 H5 pl5 d1 d2 => ?_⟩
    obtain ⟨d, rfl⟩ := Int.eq_ofNat_of_zero_le d1
    obtain ⟨x, hx, hl⟩ := hch d (by omega)
    exact ⟨p3, _, _, _, rfl, rfl, SqL.of (pl5.keep _ _ np3 hmenu), at_of rfl hx, q x H5 (plc.trans pl5) (by omega)⟩
  refine ⟨_, rfl, rfl, _, rfl, ?_⟩
  refine ite2 (fun _ => ?_) (fun _ => ?_)
  · refine ⟨_, rfl, _, rfl, p, 19, rfl, pl4.pool, by decide, by decide, fun d0 H5 pl5 d1 d2 => ?_⟩
    obtain ⟨d, rfl⟩ := Int.eq_ofNat_of_zero_le d1
    obtain ⟨x, hx, hl⟩ := hch d (by omega)
    have hmenu5 := pl5.keep _ _ np3 hmenu
    refine ⟨p3, _, _, _, rfl, rfl, SqL.of hmenu5, at_of rfl hx, ?_⟩
    refine ⟨_, rfl, _, rfl, p, 19, rfl, pl5.pool, by decide, by decide, fun g0 H6 pl6 g1 g2 => ?_⟩
    obtain ⟨g, rfl⟩ := Int.eq_ofNat_of_zero_le g1
    obtain ⟨y, hy, hl2⟩ := hch g (by omega)
    refine ⟨p3, _, _, _, rfl, rfl, SqL.of (pl6.keep _ _ np3 hmenu5), at_of rfl hy, _, _, rfl, rfl, sz (by omega), q _ H6 ((plc.trans pl5).trans pl6) ?_⟩
    show (x ++ y).length ≤ 16
    have e : (x ++ y).length = x.length + y.length := by
      show (x.cps ++ y.cps).size = _
      rw [Array.size_append]
      rfl
    omega
  have hsg : ∀ j < 20, ∃ c, ("ab <>&\"~/;=.-_Z9{}\\\n" : Str).cps.toList[j]? = some c := by
    intro j hj
    refine ⟨_, List.getElem?_eq_getElem ?_⟩
    have : ("ab <>&\"~/;=.-_Z9{}\\\n" : Str).cps.toList.length = 20 := by decide +kernel
    omega
  refine ⟨⟨_, rfl⟩, _, rfl, p, 9, rfl, pl4.pool, by decide, by decide, fun d0 H6 pl6 d1 d2 => ?_⟩
  obtain ⟨d, rfl⟩ := Int.eq_ofNat_of_zero_le d1
  refine ⟨_, rfl, by omega, by omega, fun D hD => lc_gen (walk_range (n := d)) (fun H' => Pl p H6 H') (fun i v _ => ∃ c, v = .str (S [c])) (Pl.new pl6.pool (Pl.refl pl6.pool) hD) (fun H' o e => e.mut pl6.pool hD) (fun H' e => trivial) (fun i v H' H'' h _ => h) (szl (by omega)) ?_ ?_⟩
  · rintro i x H' H'' C hi fr hacc ⟨rfl, rfl⟩ kk
    refine ⟨rfl, _, rfl, _, rfl, p, 20, rfl, fr.pool, by decide, by decide, fun c0 H7 pl7 c1 c2 => ?_⟩
    obtain ⟨c, rfl⟩ := Int.eq_ofNat_of_zero_le c1
    obtain ⟨z, hz⟩ := hsg c (by omega)
    refine ⟨_, _, z, rfl, rfl, sz (by decide +kernel), atI_nat hz, kk _ _ (fr.trans pl7) (pl7.im fr.pool) (pl_at pl7 ?_ hacc) ⟨z, rfl⟩⟩
    obtain ⟨_, _, _, z, _⟩ := pl6.pool
    exact (ne_of_none z hD).symm
  · intro H' acc fr hacc hl hall
    obtain ⟨cs, rfl, hcl⟩ := one_any hall
    have hj : Txt.join ("" : Str) (cs.map fun c => S [c]) = S cs := by rw [join_cat, cat_ones]
    refine ⟨_, D, cs.map (fun c => S [c]), rfl, rfl, .inl (SqL.of hacc), ?_, ?_⟩
    · have h1 := sum_le (n := 1) (l := cs.map fun c => S [c]) (fun x hx => by obtain ⟨c, _, rfl⟩ := List.mem_map.mp hx; exact Nat.le_refl _)
      rw [List.length_map] at h1 ⊢
      rw [show (("" : Str)).length = 0 from rfl]
      omega
    · refine q _ H' ((plc.trans pl6).trans fr) ?_
      rw [hj, S_len]
      omega
end
end RT
/-! the law's own forms -/
namespace RT
open PySem PySem.Spec PyProof.Rows L2 Evl
def isOpt : Fm → Bool
  | .opt _ => true
  | _ => false
/-- well-formed, with at most this height -/
inductive Wf : Nat → Fm → Prop where
  | text (d : Nat) : Wf d .text
  | number (d : Nat) : Wf d .number
  | flag (d : Nat) : Wf d .flag
  | list {d : Nat} {f : Fm} : Wf d f → Wf (d + 1) (.list f)
  | keyed {d : Nat} {k : Str} {ns : List Str} {f0 : Fm} {fs : List Fm} : Wf d (.rcd (k :: ns) (f0 :: fs)) → f0 = .text ∨ f0 = .number → Wf (d + 1) (.keyed (.rcd (k :: ns) (f0 :: fs)) k)
  | opt {d : Nat} {f : Fm} : Wf d f → isOpt f = false → Wf d (.opt f)
  | rcd {d : Nat} {ns : List Str} {fs : List Fm} : fs.length = ns.length → ns.length ≤ 3 → (∀ n ∈ ns, NmOk n) → ns.Nodup → (∀ f ∈ fs, Wf d f) → Wf (d + 1) (.rcd ns fs)
theorem Wf.mono {d e : Nat} {f : Fm} (h : Wf d f) (l : d ≤ e) : Wf e f := by
  induction h generalizing e with
  | text => exact .text e
  | number => exact .number e
  | flag => exact .flag e
  | list _ ih =>
    obtain ⟨e', rfl⟩ : ∃ e', e = e' + 1 := ⟨e - 1, by omega⟩
    exact .list (ih (by omega))
  | keyed _ h0 ih =>
    obtain ⟨e', rfl⟩ : ∃ e', e = e' + 1 := ⟨e - 1, by omega⟩
    exact .keyed (ih (by omega)) h0
  | opt _ h0 ih => exact .opt (ih l) h0
  | rcd h1 h2 h3 h4 _ ih =>
    obtain ⟨e', rfl⟩ : ∃ e', e = e' + 1 := ⟨e - 1, by omega⟩
    exact .rcd h1 h2 h3 h4 fun f hf => ih f hf (by omega)
def tag : Fm → Str
  | .text => "text"
  | .number => "number"
  | .flag => "flag"
  | .list _ => "list"
  | .keyed _ _ => "keyed"
  | .opt _ => "optional"
  | .rcd _ _ => "record"
theorem pd_tag : ∀ f : Fm, ∃ r, pd f = .tuple (.str (tag f) :: r)
  | .text => ⟨_, by simp only [pd, tag]; rfl⟩
  | .number => ⟨_, by simp only [pd, tag]; rfl⟩
  | .flag => ⟨_, by simp only [pd, tag]; rfl⟩
  | .list _ => ⟨_, by simp only [pd, tag]; rfl⟩
  | .keyed _ _ => ⟨_, by simp only [pd, tag]; rfl⟩
  | .opt _ => ⟨_, by simp only [pd, tag]; rfl⟩
  | .rcd _ _ => ⟨_, by simp only [pd, tag]; rfl⟩
theorem tag_opt : ∀ f : Fm, decide (tag f = "optional") = isOpt f
  | .text => show decide (("text" : Str) = "optional") = false by decide +kernel
  | .number => show decide (("number" : Str) = "optional") = false by decide +kernel
  | .flag => show decide (("flag" : Str) = "optional") = false by decide +kernel
  | .list _ => show decide (("list" : Str) = "optional") = false by decide +kernel
  | .keyed _ _ => show decide (("keyed" : Str) = "optional") = false by decide +kernel
  | .opt _ => show decide (("optional" : Str) = "optional") = true by decide +kernel
  | .rcd _ _ => show decide (("record" : Str) = "optional") = false by decide +kernel
theorem FmAt.tagged {K : PySem.W.Frag} {H : Hp} {v : V} {f : Fm} (h : FmAt K H v f) : ∃ a xs, v = .ref a ∧ SqT K H a xs ∧ xs[0]? = some (.str (tag f)) := by
  obtain ⟨r, e⟩ := pd_tag f
  unfold FmAt at h
  rw [e] at h
  obtain ⟨a, xs, rfl, hT, hA⟩ := Dp.tupInv h
  cases hA with
  | cons a1 _ =>
    cases a1
    exact ⟨a, _, rfl, hT, rfl⟩
theorem Wds.perm {ws ys : List Str} {m : Nat} (h : Wds ws m) (p : ys.Perm ws) : Wds ys m :=
  ⟨by rw [p.length_eq]; exact h.len, fun w hw => h.ok w (p.mem_iff.mp hw), fun w hw => h.nv w (p.mem_iff.mp hw), p.nodup_iff.mpr h.nd⟩
theorem flds_of {K : PySem.W.Frag} {H : Hp} {d : Nat} : ∀ {acc : List V} {ys : List Str}, acc.length = ys.length → (∀ (i : Nat) v, acc[i]? = some v → ∃ n f, ys[i]? = some n ∧ Wf d f ∧ Dp K H v (.tuple [.str n, pd f])) →
    ∃ fs : List Fm, fs.length = ys.length ∧ (∀ f ∈ fs, Wf d f) ∧ DpAll K H acc (pds ys fs)
  | [], [], _, _ => ⟨[], rfl, by simp, by simp only [pds]; exact .nil⟩
  | [], _ :: _, h, _ => by simp at h
  | _ :: _, [], h, _ => by simp at h
  | v :: acc, y :: ys, hl, h => by
    obtain ⟨n, f, h1, h2, h3⟩ := h 0 v rfl
    cases Option.some.inj h1
    obtain ⟨fs, h4, h5, h6⟩ := flds_of (acc := acc) (ys := ys) (by simpa using hl) fun i u hu => by
      obtain ⟨n, f, a, b, c⟩ := h (i + 1) u (by simpa using hu)
      exact ⟨n, f, by simpa using a, b, c⟩
    refine ⟨f :: fs, by simp [h4], fun g hg => ?_, ?_⟩
    · rcases List.mem_cons.mp hg with e | e
      · rw [e]; exact h2
      · exact h5 g e
    · simp only [pds]
      exact .cons h3 h6
section
variable {P : Program} {w : World} {K : PySem.W.Frag} {mg : Str → Option Value} {base : Heap} {k : Nat}
def spForm (K : PySem.W.Frag) (n : Nat) : Sp := fun vs H Q _ => ∃ (p : Addr) (d : Nat), vs = [.ref p, .int (d : Int)] ∧ d < n ∧ PoolAt H p ∧ ∀ v f H', Pl p H H' → FmAt K H' v f → Wf (2 * d) f → Q v H'
abbrev st_law_form : Stmt := (topS 42)
theorem sc_law_form : FnScope ["_law_pool_here", "_law_deep", "_law_way", "_law_words_here", "_law_fields_here", "_law_key", "_law_inner", "_law_word"] ["_law_pool_here", "_law_deep"] (defScope st_law_form) := ⟨rfl, rfl, rfl, by decide +kernel, rfl, by decide +kernel, by decide +kernel⟩
theorem form_none (F : Df K mg "_law_form" ["_law_pool_here", "_law_deep"] st_law_form) : Cl P w K mg base 2 "_law_form" (spForm K 0) := by
  obtain ⟨f, fd, F, m, b⟩ := F.ex
  have no : ∀ vs H Q E, ¬ spForm K 0 vs H Q E := fun vs H Q E h => by
    obtain ⟨p, d, _, h1, _⟩ := h
    omega
  exact ⟨f, fd, _, ⟨fun vs H Q E h => absurd h (no vs H Q E), fun A outer s H args us vs Q E _ _ _ _ h => absurd h (no vs H Q E)⟩, m, F.kp, b⟩
theorem ok_form (n : Nat) (T : Bi mg) (F : Df K mg "_law_form" ["_law_pool_here", "_law_deep"] st_law_form) (c_law_draw : Cl P w K mg base 1 "_law_draw" spDraw) (c_law_words : Cl P w K mg base 2 "_law_words" spWords)
    (c_law_form : Cl P w K mg base (n + 2) "_law_form" (spForm K n)) : Cl P w K mg base (n + 3) "_law_form" (spForm K (n + 1)) := by
  refine F.ok (k := n + 2) sc_law_form (fun vs H Q E h => ?_) (fun f cdv A outer s H vs Q E hr h => ?_)
  · obtain ⟨p, d, rfl, _⟩ := h
    rfl
  obtain ⟨p, d, rfl, hdn, hp, q⟩ := h
  refine ⟨_, (pss_cons (ps_set (i := 2) sc_law_form.nd rfl (Or.inl rfl) (pc c_law_draw hr (by omega) rfl (pa_cons (pv 0) (pa_cons pe_int pa_nil))))
      (pss_cons (ps_if (PW.pt (pw_or (pt_cmpR op_eq (pv 1) pe_int (nomark _)) (pw_or1 (pt_cmpR op_lt (pv 2) pe_int (nomark _))))) (pss_one (ps_ret (pe_ix ix_list (pe_lst (pa_cons (pe_tup (pa_cons pe_str pa_nil)) (pa_cons (pe_tup (pa_cons pe_str pa_nil)) (pa_cons (pe_tup (pa_cons pe_str pa_nil)) (pa_cons (pe_tup (pa_cons pe_str pa_nil)) pa_nil))))) (pe_op op_mod (pv 2) pe_int) (fun _ _ => rfl)))) pss_nil)
      (pss_cons (ps_if (pt_cmpR op_eq (pv 2) pe_int (nomark _)) (pss_one (ps_ret (pe_tup (pa_cons pe_str (pa_cons (pc c_law_form hr (by omega) rfl (pa_cons (pv 0) (pa_cons (pe_op op_sub (pv 1) pe_int) pa_nil))) pa_nil))))) pss_nil)
      (pss_cons (ps_if (pt_cmpR op_in_seq (pv 2) (pe_lst (pa_cons pe_int (pa_cons pe_int pa_nil))) rfl) (pss_cons (ps_set (i := 3) sc_law_form.nd rfl (Or.inl rfl) (pe_callB cr_sortedS rfl T.srt (by decide +kernel) (pa_cons (pc c_law_words hr (by omega) rfl (pa_cons (pv 0) (pa_cons (pe_op op_add pe_int (pc c_law_draw hr (by omega) rfl (pa_cons (pv 0) (pa_cons pe_int pa_nil)))) pa_nil))) pa_nil)))
      (pss_cons (ps_setLc (i := 4) (own := [("_law_word", 7)]) (g := gName 7) (tt := tYes) rfl sc_law_form.nd rfl rfl (sw_true rfl rfl rfl (by decide +kernel)) (pi_list (pv 3)) (blkOk_by (own := [("_law_word", 7)]) (N := ["_law_pool_here", "_law_deep", "_law_way", "_law_words_here", "_law_fields_here", "_law_key", "_law_inner", "_law_word"]) (sc := defScope st_law_form) (by decide +kernel)) (fun _ _ _ _ _ => (pg_name (i := 7) sc_law_form.nd rfl (Or.inl rfl))) (fun _ _ _ _ _ => pts_nil) (fun _ _ _ _ _ => (pe_tup (pa_cons (pv 7) (pa_cons (pc c_law_form hr (by omega) rfl (pa_cons (pv 0) (pa_cons (pe_op op_sub (pv 1) pe_int) pa_nil))) pa_nil)))))
      (pss_one (ps_ret (pe_tup (pa_cons pe_str (pa_cons (pe_callTy call_tuple_of rfl T.tup (by decide +kernel) (pa_cons (pv 4) pa_nil)) pa_nil))))))) pss_nil)
      (pss_cons (ps_if (pt_cmpR op_eq (pv 2) pe_int (nomark _)) (pss_cons (ps_set (i := 3) sc_law_form.nd rfl (Or.inl rfl) (pe_callB cr_sortedS rfl T.srt (by decide +kernel) (pa_cons (pc c_law_words hr (by omega) rfl (pa_cons (pv 0) (pa_cons pe_int pa_nil))) pa_nil)))
      (pss_cons (ps_set (i := 5) sc_law_form.nd rfl (Or.inl rfl) (pe_ix ix_list (pe_lst (pa_cons pe_str (pa_cons pe_str pa_nil))) (pc c_law_draw hr (by omega) rfl (pa_cons (pv 0) (pa_cons pe_int pa_nil))) (fun _ _ => rfl)))
      (pss_one (ps_ret (pe_tup (pa_cons pe_str (pa_cons (pe_tup (pa_cons pe_str (pa_cons (pe_tup (pa_cons (pe_tup (pa_cons (pe_ix ix_list (pv 3) pe_int (fun _ _ => rfl)) (pa_cons (pe_tup (pa_cons (pv 5) pa_nil)) pa_nil))) (pa_cons (pe_tup (pa_cons (pe_ix ix_list (pv 3) pe_int (fun _ _ => rfl)) (pa_cons (pc c_law_form hr (by omega) rfl (pa_cons (pv 0) (pa_cons (pe_op op_sub (pv 1) pe_int) pa_nil))) pa_nil))) pa_nil))) pa_nil))) (pa_cons (pe_ix ix_list (pv 3) pe_int (fun _ _ => rfl)) pa_nil)))))))) pss_nil)
      (pss_cons (ps_set (i := 6) sc_law_form.nd rfl (Or.inl rfl) (pc c_law_form hr (by omega) rfl (pa_cons (pv 0) (pa_cons (pe_op op_sub (pv 1) pe_int) pa_nil))))
      (pss_one (ps_ret (pe_ifExp (pt_cmpR op_eq (pe_ix ix_tup (pv 6) pe_int (fun _ _ => rfl)) pe_str (nomark _)) (pv 6) (pe_tup (pa_cons pe_str (pa_cons (pv 6) pa_nil)))))))))))), ?_⟩
  refine ⟨_, rfl, p, 10, rfl, hp, by decide, by decide, fun way H1 pl1 w0 w1 => ?_⟩
  obtain ⟨wy, rfl⟩ := Int.eq_ofNat_of_zero_le w0
  have hp1 := pl1.pool
  have leaf : tRet (tOp (rIxL K) (tLst (tCons (tTup (tCons (tC (.str "text")) tNil)) (tCons (tTup (tCons (tC (.str "text")) tNil)) (tCons (tTup (tCons (tC (.str "number")) tNil)) (tCons (tTup (tCons (tC (.str "flag")) tNil)) tNil)))))
      (tOp (rI (fun _ j => 0 < j) fun i j => V.int (i % j)) (tVar 2) (tC (.int 4)))) { nx := fun x H' => Q V.non H', rt := Q } [some (.ref p), some (.int (d : Int)), some (.int (wy : Int)), none, none, none, none, none] H1 := by
    refine ⟨by show 1 ≤ sizeLine; decide, fun a1 ha1 => ⟨by show 1 ≤ sizeLine; decide, fun a2 ha2 => ⟨by show 1 ≤ sizeLine; decide, fun a3 ha3 => ⟨by show 1 ≤ sizeLine; decide, fun a4 ha4 => ⟨by show 4 ≤ sizeLine; decide, fun l hl => ?_⟩⟩⟩⟩⟩
    have E5 := Ex.new (o := .lst [.ref a1, .ref a2, .ref a3, .ref a4]) hl
    have E4 := (Ex.new (o := .tup [.str "flag"]) ha4).trans E5
    have E3 := (Ex.new (o := .tup [.str "number"]) ha3).trans E4
    have E2 := (Ex.new (o := .tup [.str "text"]) ha2).trans E3
    have E1 := (Ex.new (o := .tup [.str "text"]) ha1).trans E2
    have plf := pl1.ex E1
    refine ⟨_, rfl, _, _, rfl, rfl, by show (0 : Int) < 4; decide, ?_⟩
    have h4 : wy % 4 < 4 := Nat.mod_lt _ (by decide)
    have fin : ∀ (a : Addr) (f : Fm) (x : Str), [V.ref a1, .ref a2, .ref a3, .ref a4][wy % 4]? = some (.ref a) → pd f = .tuple [.str x] → Wf (2 * d) f → SqT K (upd (upd (upd (upd (upd H1 a1 (.tup [.str "text"])) a2 (.tup [.str "text"])) a3 (.tup [.str "number"])) a4 (.tup [.str "flag"])) l (.lst [.ref a1, .ref a2, .ref a3, .ref a4])) a [.str x] →
        rIxL K (.ref l) (.int ((wy : Int) % 4)) (upd (upd (upd (upd (upd H1 a1 (.tup [.str "text"])) a2 (.tup [.str "text"])) a3 (.tup [.str "number"])) a4 (.tup [.str "flag"])) l (.lst [.ref a1, .ref a2, .ref a3, .ref a4])) Q := by
      intro a f x hx hf hw hs
      refine ⟨l, _, _, .ref a, rfl, rfl, SqL.of upd_same, at_of (j := wy % 4) (by omega) hx, q _ f _ plf ?_ hw⟩
      unfold FmAt
      rw [hf]
      exact .tup hs (.cons (.str _) .nil)
    have hc : wy % 4 = 0 ∨ wy % 4 = 1 ∨ wy % 4 = 2 ∨ wy % 4 = 3 := by omega
    rcases hc with h | h | h | h
    · exact fin a1 .text "text" (by rw [h]; rfl) (by simp only [pd]) (.text _) (SqT.of (E2 _ _ upd_same))
    · exact fin a2 .text "text" (by rw [h]; rfl) (by simp only [pd]) (.text _) (SqT.of (E3 _ _ upd_same))
    · exact fin a3 .number "number" (by rw [h]; rfl) (by simp only [pd]) (.number _) (SqT.of (E4 _ _ upd_same))
    · exact fin a4 .flag "flag" (by rw [h]; rfl) (by simp only [pd]) (.flag _) (SqT.of (E5 _ _ upd_same))
  refine ⟨_, rfl, rfl, _, rfl, ?_⟩
  cases d with
  | zero =>
    rw [show decide (V.int ((0 : Nat) : Int) = V.int 0) = true from rfl]
    exact leaf
  | succ d =>
  rw [decide_eq_false (show ¬ V.int ((d + 1 : Nat) : Int) = V.int 0 by intro z; have := V.int.inj z; omega)]
  refine ⟨_, rfl, _, _, rfl, rfl, _, rfl, ?_⟩
  refine ite2 (fun _ => leaf) (fun _ => ?_)
  have hd1 : (((d + 1 : Nat) : Int)) - 1 = ((d : Nat) : Int) := by omega
  have e2d : 2 * (d + 1) = 2 * d + 1 + 1 := by omega
  refine ⟨_, rfl, rfl, _, rfl, ?_⟩
  refine ite2 (fun _ => ?_) (fun _ => ?_)
  · refine ⟨_, rfl, _, rfl, _, _, rfl, rfl, p, d, congrArg (fun z => [V.ref p, V.int z]) hd1, by omega, hp1, fun v f H2 pl2 hf hw => ⟨by show 2 ≤ sizeLine; decide, fun a ha => ?_⟩⟩
    refine q _ (.list f) _ ((pl1.trans pl2).ex (Ex.new ha)) ?_ (by rw [e2d]; exact (Wf.list hw).mono (by omega))
    unfold FmAt
    simp only [pd]
    exact Dp.new ha (.cons (.str _) (.cons hf .nil)) (by simp only [noLs, noL, noL_pd]; rfl)
  refine ⟨_, rfl, by show 2 ≤ sizeLine; decide, fun c hc => ⟨c, _, rfl, .inl (SqL.of upd_same), rfl, rfl, _, rfl, ?_⟩⟩
  have plc := pl1.ex (Ex.new (o := .lst [.int 5, .int 6]) hc)
  refine ite2 (fun _ => ?_) (fun _ => ?_)
  · refine ⟨_, rfl, _, rfl, p, 3, rfl, plc.pool, by decide, by decide, fun d3 H2 pl2 a1 a2 => ?_⟩
    obtain ⟨e, rfl⟩ := Int.eq_ofNat_of_zero_le a1
    refine ⟨_, _, rfl, rfl, p, 1 + e, congrArg (fun z => [V.ref p, V.int z]) (show (1 : Int) + (e : Int) = ((1 + e : Nat) : Int) by omega), pl2.pool, by omega, fun D H3 ws pl3 hDn hD hW => ?_⟩
    refine ⟨D, ws, rfl, SqL.of hD, by rw [hW.len]; omega, fun ys p5 hperm _ hp5 => ?_⟩
    have hY := hW.perm hperm
    have pl4 := ((plc.trans pl2).trans pl3).ex (Ex.new (o := .lst (ys.map V.str)) hp5)
    have np5 : p5 ≠ p := by
      obtain ⟨_, _, _, z, _⟩ := pl3.pool
      exact (ne_of_none z hp5).symm
    have h5 : (upd H3 p5 (.lst (ys.map V.str))) p5 = some (.lst (ys.map V.str)) := upd_same
    generalize upd H3 p5 (.lst (ys.map V.str)) = H4 at pl4 h5 ⊢
    have hyl := hY.len
    refine ⟨_, rfl, p5, rfl, ⟨_, SqL.of h5⟩, fun D2 hD2 => lc_gen (walk_list (a := p5) (xs := ys.map V.str)) (fun H' => Pl p H4 H') (fun i v H' => ∃ n f, ys[i]? = some n ∧ Wf (2 * d) f ∧ Dp K H' v (.tuple [.str n, pd f]))
      (Pl.new pl4.pool (Pl.refl pl4.pool) hD2) (fun H' o e => e.mut pl4.pool hD2) (fun H' e => SqL.of (e.keep _ _ np5 h5)) (fun i v H' H'' h m => let ⟨n, f, x1, x2, x3⟩ := h; ⟨n, f, x1, x2, Dp.im m (by simp only [noL, noLs, noL_pd]; rfl) x3⟩) (szl (by simp; omega)) ?_ ?_⟩
    · rintro i x H' H'' C hi fr hacc ⟨rfl, hx⟩ kk
      obtain ⟨n, hn, rfl⟩ : ∃ n, ys[i]? = some n ∧ x = V.str n := by
        rw [List.getElem?_map] at hx
        cases e : ys[i]? with
        | none => rw [e] at hx; cases hx
        | some n => rw [e] at hx; exact ⟨n, rfl, (Option.some.inj hx).symm⟩
      have np : D2 ≠ p := by
        obtain ⟨_, _, _, z, _⟩ := pl4.pool
        exact (ne_of_none z hD2).symm
      refine ⟨rfl, _, rfl, _, rfl, _, rfl, _, _, rfl, rfl, p, d, congrArg (fun z => [V.ref p, V.int z]) hd1, by omega, fr.pool, fun v f H6 pl6 hf hw => ⟨by show 2 ≤ sizeLine; decide, fun a ha => ?_⟩⟩
      have pl7 := pl6.ex (Ex.new (o := .tup [.str n, v]) ha)
      exact kk _ _ (fr.trans pl7) (pl7.im fr.pool) (pl_at pl7 np hacc) ⟨n, f, hn, hw, Dp.new ha (.cons (.str _) (.cons hf .nil)) (by simp only [noLs, noL, noL_pd]; rfl)⟩
    · intro H5 acc fr hacc hl hall
      obtain ⟨fs, hfl, hfw, hfd⟩ := flds_of (by simpa using hl) hall
      refine ⟨_, rfl, D2, acc, rfl, .inl ⟨SqL.of hacc, fun a ha => ⟨by show 2 ≤ sizeLine; decide, fun b hb => ?_⟩⟩⟩
      refine q _ (.rcd ys fs) _ ((pl4.trans fr).ex ((Ex.new ha).trans (Ex.new hb))) ?_ (by rw [e2d]; exact (Wf.rcd hfl (by omega) hY.ok hY.nd hfw).mono (by omega))
      unfold FmAt
      simp only [pd]
      exact Dp.new hb (.cons (.str _) (.cons (Dp.new ha hfd (noL_pds _ _)) .nil)) (by simp only [noLs, noL, noL_pds]; rfl)
  refine ⟨_, rfl, rfl, _, rfl, ?_⟩
  refine ite2 (fun _ => ?_) (fun _ => ?_)
  · refine ⟨_, rfl, p, 2, rfl, plc.pool, by omega, fun D H3 ws pl3 hDn hD hW => ?_⟩
    refine ⟨D, ws, rfl, SqL.of hD, by rw [hW.len]; omega, fun ys p5 hperm _ hp5 => ?_⟩
    have hY := hW.perm hperm
    have pl4 := (plc.trans pl3).ex (Ex.new (o := .lst (ys.map V.str)) hp5)
    have np5 : p5 ≠ p := by
      obtain ⟨_, _, _, z, _⟩ := pl3.pool
      exact (ne_of_none z hp5).symm
    have h5 : (upd H3 p5 (.lst (ys.map V.str))) p5 = some (.lst (ys.map V.str)) := upd_same
    generalize upd H3 p5 (.lst (ys.map V.str)) = H4 at pl4 h5 ⊢
    obtain ⟨k1, k2, rfl⟩ : ∃ k1 k2, ys = [k1, k2] := by
      match ys, hY.len with
      | [k1, k2], _ => exact ⟨k1, k2, rfl⟩
    refine ⟨by show 2 ≤ sizeLine; decide, fun kl hkl => ?_⟩
    have pl5 := pl4.ex (Ex.new (o := .lst [.str "text", .str "number"]) hkl)
    have nkl : kl ≠ p := by
      obtain ⟨_, _, _, z, _⟩ := pl4.pool
      exact (ne_of_none z hkl).symm
    refine ⟨_, rfl, p, 2, rfl, pl5.pool, by decide, by decide, fun g0 H6 pl6 g1 g2 => ?_⟩
    obtain ⟨g, rfl⟩ := Int.eq_ofNat_of_zero_le g1
    have h56 : H6 p5 = some (.lst [.str k1, .str k2]) := pl6.keep _ _ np5 ((Ex.new hkl) _ _ h5)
    obtain ⟨x, f0, hx, hf0, hf1, hf2⟩ : ∃ (x : Str) (f0 : Fm), [V.str "text", V.str "number"][g]? = some (.str x) ∧ pd f0 = .tuple [.str x] ∧ (f0 = .text ∨ f0 = .number) ∧ Wf (2 * d) f0 := by
      have hc : g = 0 ∨ g = 1 := by omega
      rcases hc with rfl | rfl
      · exact ⟨"text", .text, rfl, by simp only [pd], .inl rfl, .text _⟩
      · exact ⟨"number", .number, rfl, by simp only [pd], .inr rfl, .number _⟩
    refine ⟨kl, _, _, _, rfl, rfl, SqL.of (pl6.keep _ _ nkl upd_same), at_of rfl hx, ?_⟩
    have pl6' := pl5.trans pl6
    refine ⟨_, rfl, p5, _, _, .str k1, rfl, rfl, SqL.of h56, at_of (j := 0) rfl rfl, _, rfl, by show 1 ≤ sizeLine; decide, fun b1 hb1 => ⟨by show 2 ≤ sizeLine; decide, fun b2 hb2 => ?_⟩⟩
    have D1 : Dp K (upd H6 b1 (.tup [.str x])) (.ref b1) (pd f0) := by rw [hf0]; exact Dp.new hb1 (.cons (.str _) .nil) rfl
    have D2 := Dp.new hb2 (.cons (.str k1) (.cons D1 .nil)) (by simp only [noLs, noL, noL_pd]; rfl)
    have E2 := (Ex.new (o := .tup [.str x]) hb1).trans (Ex.new (o := .tup [.str k1, .ref b1]) hb2)
    have pl7 := pl6'.ex E2
    refine ⟨_, rfl, p5, _, _, .str k2, rfl, rfl, SqL.of (E2 _ _ h56), at_of (j := 1) rfl rfl, _, rfl, _, rfl, _, _, rfl, rfl, p, d, congrArg (fun z => [V.ref p, V.int z]) hd1, by omega, pl7.pool, fun v f H8 pl8 hf hw => ?_⟩
    have D2' := Dp.im (pl8.im pl7.pool) (by simp only [noLs, noL, noL_pd]; rfl) D2
    have h58 : H8 p5 = some (.lst [.str k1, .str k2]) := pl8.keep _ _ np5 (E2 _ _ h56)
    refine ⟨by show 2 ≤ sizeLine; decide, fun b3 hb3 => ⟨by show 2 ≤ sizeLine; decide, fun b4 hb4 => ⟨by show 2 ≤ sizeLine; decide, fun b5 hb5 => ?_⟩⟩⟩
    have D3 := Dp.new hb3 (.cons (.str k2) (.cons hf .nil)) (by simp only [noLs, noL, noL_pd]; rfl)
    have D4 := Dp.new hb4 (.cons (Dp.im (Im.new hb3) (by simp only [noLs, noL, noL_pd]; rfl) D2') (.cons D3 .nil)) (by simp only [noLs, noL, noL_pd]; rfl)
    have D5 := Dp.new hb5 (.cons (.str "record") (.cons D4 .nil)) (by simp only [noLs, noL, noL_pd]; rfl)
    have E5 := (Ex.new (o := .tup [.str k2, v]) hb3).trans ((Ex.new (o := .tup [.ref b2, .ref b3]) hb4).trans (Ex.new (o := .tup [.str "record", .ref b4]) hb5))
    refine ⟨_, rfl, p5, _, _, .str k1, rfl, rfl, SqL.of (E5 _ _ h58), at_of (j := 0) rfl rfl, by show 3 ≤ sizeLine; decide, fun b6 hb6 => ?_⟩
    refine q _ (.keyed (.rcd [k1, k2] [f0, f]) k1) _ ((pl7.trans pl8).ex (E5.trans (Ex.new hb6))) ?_ (by
      rw [e2d]
      refine .keyed (.rcd rfl (show 2 ≤ 3 by decide) hY.ok hY.nd fun g hg => ?_) hf1
      rcases List.mem_cons.mp hg with h | h
      · rw [h]; exact hf2
      · rw [List.mem_singleton.mp h]; exact hw)
    unfold FmAt
    simp only [pd, pds]
    exact Dp.new hb6 (.cons (.str _) (.cons D5 (.cons (.str _) .nil))) (by simp only [noLs, noL, noL_pd]; rfl)
  refine ⟨_, rfl, _, rfl, _, _, rfl, rfl, p, d, congrArg (fun z => [V.ref p, V.int z]) hd1, by omega, plc.pool, fun v f H2 pl2 hf hw => ?_⟩
  obtain ⟨a, xs, rfl, hT, hx⟩ := hf.tagged
  refine ans_tag (b := isOpt f) rfl hT hx (tag_opt f) _ ?_
  cases ho : isOpt f with
  | true =>
    refine iteT ?_
    exact ⟨_, rfl, q _ f _ (plc.trans pl2) hf (hw.mono (by omega))⟩
  | false =>
    refine iteF ?_
    refine ⟨_, rfl, by show 2 ≤ sizeLine; decide, fun b hb => q _ (.opt f) _ ((plc.trans pl2).ex (Ex.new hb)) ?_ ((Wf.opt hw ho).mono (by omega))⟩
    unfold FmAt
    simp only [pd]
    exact Dp.new hb (.cons (.str _) (.cons hf .nil)) (by simp only [noLs, noL, noL_pd]; rfl)
theorem form_all (T : Bi mg) (F : Df K mg "_law_form" ["_law_pool_here", "_law_deep"] st_law_form) (c_law_draw : Cl P w K mg base 1 "_law_draw" spDraw) (c_law_words : Cl P w K mg base 2 "_law_words" spWords) :
    ∀ n : Nat, Cl P w K mg base (n + 2) "_law_form" (spForm K n)
  | 0 => form_none F
  | n + 1 => ok_form n T F c_law_draw c_law_words (form_all T F c_law_draw c_law_words n)
end
end RT
/-! dicts that still change -/
namespace RT
open PySem PySem.Spec PyProof.Rows L2 Evl
/-- a dict of things by their names, not frozen -/
def DcAt (H : Hp) (a : Addr) (ns : List Str) (ts : List Th) : Prop := ∃ kvs, H a = some (.dK kvs) ∧ kvs.map (·.1) = ns.map Sum.inr ∧ kvs.length = ts.length ∧ ∀ (i : Nat) (v : V) (t : Th), (kvs.map (·.2))[i]? = some v → ts[i]? = some t → ThAt H v t
theorem DcAt.mv {H H' : Hp} {a : Addr} {ns : List Str} {ts : List Th} (h : DcAt H a ns ts) (e : H' a = H a) (m : Im H H') : DcAt H' a ns ts := by
  obtain ⟨kvs, h1, h2, h3, h4⟩ := h
  exact ⟨kvs, e.trans h1, h2, h3, fun i v t a b => (h4 i v t a b).im m⟩
theorem DcAt.isD {H : Hp} {a : Addr} {ns : List Str} {ts : List Th} (h : DcAt H a ns ts) : ∃ kvs, H a = some (.dK kvs) := let ⟨kvs, e, _⟩ := h; ⟨kvs, e⟩
theorem DcAt.keep {p : Addr} {H H' : Hp} {a : Addr} {ns : List Str} {ts : List Th} (hp : PoolAt H p) (h : DcAt H a ns ts) (pl : Pl p H H') : DcAt H' a ns ts := by
  obtain ⟨kvs, e⟩ := h.isD
  exact h.mv ((pl.keep _ _ (hp.ne e (by intro xs z; cases z)) e).trans e.symm) (pl.im hp)
/-- it is frozen -/
theorem DcAt.frz {H : Hp} {a : Addr} {ns : List Str} {ts : List Th} {Q : Hp → Prop} (h : DcAt H a ns ts) (q : ∀ H', Im H H' → (∀ b, b ≠ a → H' b = H b) → ThAt H' (.ref a) (.rcd ns ts) → Q H') : FrzTo Q H := by
  obtain ⟨kvs, h1, h2, h3, h4⟩ := h
  refine .step h1 fun od => .done ?_
  have im : Im H (upd H a (.frz od (.dK kvs))) := Im.dK h1
  exact q _ im (fun b hb => upd_ne hb) (.rcd (o := od) (kvs := kvs) upd_same h2 h3 fun i v t x y => (h4 i v t x y).im im)
/-- a new field -/
theorem DcAt.put {H : Hp} {a : Addr} {ns : List Str} {ts : List Th} {n : Str} {v : V} {t : Th} (h : DcAt H a ns ts) (hn : n ∉ ns) (hv : ThAt H v t) :
    ∃ kvs, H a = some (.dK kvs) ∧ kvs.length = ns.length ∧ DcAt (upd H a (.dK (putK kvs (Sum.inr n) v))) a (ns ++ [n]) (ts ++ [t]) := by
  obtain ⟨kvs, h1, h2, h3, h4⟩ := h
  have hl : kvs.length = ns.length := by simpa using congrArg List.length h2
  have hnone : valV kvs (Sum.inr n) = none := by
    rw [valV_field h2]
    cases e : fieldOf ns (kvs.map (·.2)) n with
    | none => rfl
    | some x =>
      obtain ⟨i, e1, _⟩ := field_at e
      exact absurd (List.mem_of_getElem? e1) hn
  have im : Im H (upd H a (.dK (putK kvs (Sum.inr n) v))) := Im.dK h1
  refine ⟨kvs, h1, hl, _, upd_same, ?_, ?_, ?_⟩
  · rw [putK_new v hnone, List.map_append, h2, List.map_append]
    rfl
  · rw [putK_new v hnone, List.length_append, List.length_append, h3]
    rfl
  · intro i u s hu hs
    rw [putK_new v hnone, List.map_append] at hu
    by_cases hi : i < kvs.length
    · rw [List.getElem?_append_left (by simpa using hi)] at hu
      rw [List.getElem?_append_left (by omega)] at hs
      exact (h4 i u s hu hs).im im
    · rw [List.getElem?_append_right (by simp; omega), List.length_map] at hu
      rw [List.getElem?_append_right (by omega), ← h3] at hs
      have h0 : i - kvs.length = 0 := by
        cases q : i - kvs.length with
        | zero => rfl
        | succ k => rw [q] at hs; simp at hs
      rw [h0] at hu hs
      simp at hu hs
      subst hu hs
      exact hv.im im
/-- the first field anew -/
theorem DcAt.re {H : Hp} {a : Addr} {n : Str} {ns : List Str} {t0 : Th} {ts : List Th} {v : V} {t : Th} (h : DcAt H a (n :: ns) (t0 :: ts)) (nd : (n :: ns).Nodup) (hv : ThAt H v t) :
    ∃ kvs, H a = some (.dK kvs) ∧ kvs.length = ns.length + 1 ∧ DcAt (upd H a (.dK (putK kvs (Sum.inr n) v))) a (n :: ns) (t :: ts) := by
  obtain ⟨kvs, h1, h2, h3, h4⟩ := h
  have hl : kvs.length = ns.length + 1 := by simpa using congrArg List.length h2
  cases kvs with
  | nil => simp at hl
  | cons p r =>
    simp only [List.map_cons, List.cons.injEq] at h2
    obtain ⟨h2a, h2b⟩ := h2
    have hput : putK (p :: r) (Sum.inr n) v = (Sum.inr n, v) :: r := by
      unfold putK
      rw [if_pos (by rw [List.any_cons, h2a]; simp)]
      rw [List.map_cons, if_pos h2a, h2a]
      congr 1
      rw [List.map_congr_left (g := id), List.map_id]
      intro kv hkv
      have hne : ¬ kv.1 = Sum.inr n := by
        intro e
        have h5 : kv.1 ∈ ns.map Sum.inr := by
          rw [← h2b]
          exact List.mem_map_of_mem hkv
        rw [e] at h5
        obtain ⟨m, hm, e2⟩ := List.mem_map.mp h5
        cases Sum.inr.inj e2
        exact (List.nodup_cons.mp nd).1 hm
      rw [if_neg hne]
      rfl
    have im : Im H (upd H a (.dK (putK (p :: r) (Sum.inr n) v))) := Im.dK h1
    refine ⟨_, h1, hl, _, upd_same, ?_, ?_, ?_⟩
    · rw [hput, List.map_cons, h2b, List.map_cons]
    · rw [hput]
      simpa using h3
    · intro i u s hu hs
      rw [hput] at hu
      cases i with
      | zero =>
        simp at hu hs
        subst hu hs
        exact hv.im im
      | succ i => exact (h4 (i + 1) u s (by simpa using hu) (by simpa using hs)).im im
/-- a thing, maybe a dict that is new since H0 and open -/
def OpAt (H0 H : Hp) (v : V) (t : Th) : Prop := ThAt H v t ∨ ∃ a ns ts, v = .ref a ∧ t = .rcd ns ts ∧ H0 a = none ∧ DcAt H a ns ts
theorem OpAt.frz {p : Addr} {H0 H : Hp} {v : V} {t : Th} {Q : Hp → Prop} (hp : PoolAt H0 p) (pl : Pl p H0 H) (h : OpAt H0 H v t) (q : ∀ H', Pl p H0 H' → Im H H' → ThAt H' v t → Q H') : FrzTo Q H := by
  rcases h with h | ⟨a, ns, ts, rfl, rfl, h0, h⟩
  · exact .done (q H pl (Im.refl _) h)
  · have hap : a ≠ p := by
      obtain ⟨_, _, _, z, _⟩ := hp
      rintro rfl
      rw [z] at h0
      cases h0
    refine h.frz fun H' im ho ht => q H' ⟨?_, fun b o hb e => ?_⟩ im ht
    · obtain ⟨s, g, c, z, r⟩ := pl.pool
      exact ⟨s, g, c, (ho p hap.symm).trans z, r⟩
    · have hba : b ≠ a := by
        rintro rfl
        rw [h0] at e
        cases e
      rw [ho b hba]
      exact pl.keep b o hb e
theorem OpAt.frz' {H0 H : Hp} {v : V} {t : Th} {Q : Hp → Prop} (h : OpAt H0 H v t) (q : ∀ H', Im H H' → (∀ b o, H0 b = some o → H' b = H b) → ThAt H' v t → Q H') : FrzTo Q H := by
  rcases h with h | ⟨a, ns, ts, rfl, rfl, h0, h⟩
  · exact .done (q H (Im.refl _) (fun _ _ _ => rfl) h)
  · refine h.frz fun H' im ho ht => q H' im (fun b o e => ho b ?_) ht
    rintro rfl
    rw [h0] at e
    cases e
/-- open dicts, side by side, new since H0 -/
structure KeyAt (H0 H : Hp) (ns : List Str) (as : List Addr) (tss : List (List Th)) : Prop where
  len : as.length = tss.length
  nd : as.Nodup
  new : ∀ a ∈ as, H0 a = none
  dc : ∀ (j : Nat) a ts, as[j]? = some a → tss[j]? = some ts → DcAt H a ns ts
theorem KeyAt.mv {H0 H H' : Hp} {ns : List Str} {as : List Addr} {tss : List (List Th)} (h : KeyAt H0 H ns as tss) (e : ∀ a ∈ as, H' a = H a) (m : Im H H') : KeyAt H0 H' ns as tss :=
  ⟨h.len, h.nd, h.new, fun j a ts x y => (h.dc j a ts x y).mv (e a (List.mem_of_getElem? x)) m⟩
theorem KeyAt.is {H0 H : Hp} {ns : List Str} {as : List Addr} {tss : List (List Th)} (h : KeyAt H0 H ns as tss) {a : Addr} (ha : a ∈ as) : ∃ kvs, H a = some (.dK kvs) := by
  obtain ⟨j, hj⟩ := List.mem_iff_getElem?.mp ha
  have hl := h.len
  obtain ⟨ts, hts⟩ : ∃ ts, tss[j]? = some ts := ⟨_, List.getElem?_eq_getElem (by have := (List.getElem?_eq_some_iff.mp hj).1; omega)⟩
  exact (h.dc j a ts hj hts).isD
theorem KeyAt.keep {p : Addr} {H0 H H' : Hp} {ns : List Str} {as : List Addr} {tss : List (List Th)} (hp : PoolAt H p) (h : KeyAt H0 H ns as tss) (pl : Pl p H H') : KeyAt H0 H' ns as tss :=
  h.mv (fun a ha => by
    obtain ⟨kvs, e⟩ := h.is ha
    exact (pl.keep _ _ (hp.ne e (by intro xs z; cases z)) e).trans e.symm) (pl.im hp)
theorem KeyAt.snoc {H0 H : Hp} {ns : List Str} {as : List Addr} {tss : List (List Th)} (h : KeyAt H0 H ns as tss) {a : Addr} {ts : List Th} (ha : a ∉ as) (h0 : H0 a = none) (hd : DcAt H a ns ts) : KeyAt H0 H ns (as ++ [a]) (tss ++ [ts]) := by
  have hl := h.len
  refine ⟨by simp [hl], ?_, fun b hb => ?_, fun j b us x y => ?_⟩
  · rw [List.nodup_append]
    refine ⟨h.nd, by simp, fun x hx y hy => ?_⟩
    rw [List.mem_singleton] at hy
    subst hy
    rintro rfl
    exact ha hx
  · rcases List.mem_append.mp hb with e | e
    · exact h.new b e
    · rw [List.mem_singleton.mp e]; exact h0
  · by_cases hj : j < as.length
    · rw [List.getElem?_append_left hj] at x
      rw [List.getElem?_append_left (by omega)] at y
      exact h.dc j b us x y
    · rw [List.getElem?_append_right (by omega)] at x
      rw [List.getElem?_append_right (by omega), ← hl] at y
      have h0 : j - as.length = 0 := by
        cases q : j - as.length with
        | zero => rfl
        | succ k => rw [q] at x; simp at x
      rw [h0] at x y
      simp at x y
      subst x y
      exact hd
theorem nodup_at {α : Type} {as : List α} (nd : as.Nodup) {i j : Nat} {a : α} (h1 : as[i]? = some a) (h2 : as[j]? = some a) : i = j := by
  obtain ⟨h3, h4⟩ := List.getElem?_eq_some_iff.mp h1
  obtain ⟨h5, h6⟩ := List.getElem?_eq_some_iff.mp h2
  exact (List.getElem_inj nd).mp (h4.trans h6.symm)
/-- one of them changes -/
theorem KeyAt.set {H0 H H' : Hp} {ns : List Str} {as : List Addr} {tss : List (List Th)} (h : KeyAt H0 H ns as tss) {i : Nat} {a : Addr} {ts : List Th} (hi : as[i]? = some a) (hd : DcAt H' a ns ts) (ho : ∀ b, b ≠ a → H' b = H b) (m : Im H H') : KeyAt H0 H' ns as (tss.set i ts) := by
  refine ⟨by rw [List.length_set]; exact h.len, h.nd, h.new, fun j b us x y => ?_⟩
  by_cases e : i = j
  · subst e
    rw [hi] at x
    cases x
    have hl : i < tss.length := by have := (List.getElem?_eq_some_iff.mp hi).1; have := h.len; omega
    rw [List.getElem?_set_self hl] at y
    cases y
    exact hd
  · rw [List.getElem?_set_ne e] at y
    have hne : b ≠ a := by
      rintro rfl
      exact e (nodup_at h.nd hi x)
    exact (h.dc j b us x y).mv (ho b hne) m
/-- all are frozen -/
theorem frz_all {Q : Hp → Prop} {ns : List Str} : ∀ {as : List Addr} {tss : List (List Th)} {H : Hp}, as.length = tss.length → as.Nodup → (∀ (j : Nat) a ts, as[j]? = some a → tss[j]? = some ts → DcAt H a ns ts) →
    (∀ H', Im H H' → (∀ b, b ∉ as → H' b = H b) → (∀ (j : Nat) a ts, as[j]? = some a → tss[j]? = some ts → ThAt H' (.ref a) (.rcd ns ts)) → Q H') → FrzTo Q H
  | [], _, H, _, _, _, q => .done (q H (Im.refl _) (fun _ _ => rfl) (fun j a ts h => by simp at h))
  | a :: as, [], H, h, _, _, _ => by simp at h
  | a :: as, ts :: tss, H, hl, nd, hd, q => by
    have nd' := List.nodup_cons.mp nd
    obtain ⟨kvs, h1, h2, h3, h4⟩ := hd 0 a ts rfl rfl
    refine .step h1 fun od => ?_
    have im : Im H (upd H a (.frz od (.dK kvs))) := Im.dK h1
    have ht : ThAt (upd H a (.frz od (.dK kvs))) (.ref a) (.rcd ns ts) := .rcd (o := od) (kvs := kvs) upd_same h2 h3 fun i v t x y => (h4 i v t x y).im im
    refine frz_all (ns := ns) (as := as) (tss := tss) (by simpa using hl) nd'.2 (fun j b us x y => ?_) fun H' im2 ho hall => ?_
    · have hne : b ≠ a := by
        rintro rfl
        exact nd'.1 (List.mem_of_getElem? x)
      exact (hd (j + 1) b us (by simpa using x) (by simpa using y)).mv (upd_ne hne) im
    · refine q H' (im.trans im2) (fun b hb => ?_) (fun j b us x y => ?_)
      · rw [ho b (fun z => hb (List.mem_cons_of_mem _ z)), upd_ne (fun (z : b = a) => hb (by rw [z]; exact List.mem_cons_self))]
      · cases j with
        | zero =>
          simp at x y
          subst x y
          exact ht.im im2
        | succ j => exact hall j b us (by simpa using x) (by simpa using y)
end RT
/-! the law's own things -/
namespace RT
open PySem PySem.Spec PyProof.Rows L2 Evl
def rank (d : Nat) (f : Fm) : Nat := 2 * d + (if isOpt f = true then 1 else 0)
theorem rank_lt {d : Nat} {f : Fm} : rank d f < 2 * (d + 1) := by
  unfold rank
  split <;> omega
/-- a keyed item gets its key -/
theorem key_step {H0 H : Hp} {kn : Str} {ns : List Str} {f0 : Fm} {fs : List Fm} {as : List Addr} {tss : List (List Th)} {i : Nat} {z : V} {t' : Th} (hk : KeyAt H0 H (kn :: ns) as tss) (nd : (kn :: ns).Nodup) (hl3 : (kn :: ns).length ≤ 3)
    (hf : ∀ (j : Nat) ts, tss[j]? = some ts → Fits (.rcd (kn :: ns) (f0 :: fs)) (.rcd (kn :: ns) ts)) (hz : ThAt H z t') (hz2 : Fits f0 t') (hi : i < as.length) :
    ∃ a kvs tss', as[i]? = some a ∧ H a = some (.dK kvs) ∧ kvs.length ≤ 3 ∧ KeyAt H0 (upd H a (.dK (putK kvs (Sum.inr kn) z))) (kn :: ns) as tss' ∧ ∀ (j : Nat) ts, tss'[j]? = some ts → Fits (.rcd (kn :: ns) (f0 :: fs)) (.rcd (kn :: ns) ts) := by
  have hlen := hk.len
  obtain ⟨a, ha⟩ : ∃ a, as[i]? = some a := ⟨_, List.getElem?_eq_getElem hi⟩
  obtain ⟨ts, hts⟩ : ∃ ts, tss[i]? = some ts := ⟨_, List.getElem?_eq_getElem (by omega)⟩
  have hd := hk.dc i a ts ha hts
  have hff := hf i ts hts
  cases ts with
  | nil => cases hff with | rcd h _ => simp at h
  | cons t0 tr =>
    obtain ⟨kvs, h1, h2, h3⟩ := hd.re nd hz
    refine ⟨a, kvs, tss.set i (t' :: tr), ha, h1, by simp at hl3; omega, hk.set ha h3 (fun b hb => upd_ne hb) (Im.dK h1), fun j us hus => ?_⟩
    by_cases e : i = j
    · subst e
      rw [List.getElem?_set_self (by omega)] at hus
      cases hus
      cases hff with
      | rcd h4 h5 =>
        refine .rcd (by simpa using h4) fun j g t hg ht => ?_
        cases j with
        | zero =>
          simp at hg ht
          subst hg ht
          exact hz2
        | succ j => exact h5 (j + 1) g t hg (by simpa using ht)
    · rw [List.getElem?_set_ne e] at hus
      exact hf j us hus
theorem Wf.rcdOk {d : Nat} {ns : List Str} {fs : List Fm} (h : Wf d (.rcd ns fs)) : ns.length ≤ 3 ∧ ns.Nodup := by
  cases h with
  | rcd _ h1 _ h2 _ => exact ⟨h1, h2⟩
theorem shaped_tag {x : Str} (h : x = "text" ∨ x = "number") : SeqAt.shaped (.tuple [.str x]) = true := by
  rcases h with rfl | rfl <;> decide +kernel
theorem k_texts : ∀ i < 3, (Txt.mul ("k" : Str) ((i + 1 : Nat) : Int)).length ≤ 16 := by decide +kernel
section
variable {P : Program} {w : World} {K : PySem.W.Frag} {mg : Str → Option Value} {base : Heap} {k : Nat}
def spThing (K : PySem.W.Frag) (n : Nat) : Sp := fun vs H Q _ => ∃ (p : Addr) (u : V) (f : Fm) (d : Nat), vs = [.ref p, u] ∧ PoolAt H p ∧ FmAt K H u f ∧ Wf d f ∧ rank d f < n ∧
  ∀ v t H', Pl p H H' → Fits f t → OpAt H H' v t → (∀ ns fs, f = .rcd ns fs → ∃ a ts, v = .ref a ∧ t = .rcd ns ts ∧ H a = none ∧ DcAt H' a ns ts) → Q v H'
abbrev st_law_thing_of : Stmt := (topS 43)
theorem sc_law_thing_of : FnScope ["_law_pool_here", "_law_form_here", "_law_found", "_law_word", "_law_inner", "_law_k", "_law_numbers"] ["_law_pool_here", "_law_form_here"] (defScope st_law_thing_of) := ⟨rfl, rfl, rfl, by decide +kernel, rfl, by decide +kernel, by decide +kernel⟩
theorem thing_none (F : Df K mg "_law_thing_of" ["_law_pool_here", "_law_form_here"] st_law_thing_of) : Cl P w K mg base 2 "_law_thing_of" (spThing K 0) := by
  obtain ⟨f, fd, F, m, b⟩ := F.ex
  have no : ∀ vs H Q E, ¬ spThing K 0 vs H Q E := fun vs H Q E h => by
    obtain ⟨p, u, f, d, _, _, _, _, h1, _⟩ := h
    omega
  exact ⟨f, fd, _, ⟨fun vs H Q E h => absurd h (no vs H Q E), fun A outer s H args us vs Q E _ _ _ _ h => absurd h (no vs H Q E)⟩, m, F.kp, b⟩
theorem ok_thing_of (n : Nat) (T : Bi mg) (F : Df K mg "_law_thing_of" ["_law_pool_here", "_law_form_here"] st_law_thing_of) (c_law_draw : Cl P w K mg base 1 "_law_draw" spDraw) (c_law_chars : Cl P w K mg base 2 "_law_chars" spChars)
    (c_law_thing_of : Cl P w K mg base (n + 2) "_law_thing_of" (spThing K n)) : Cl P w K mg base (n + 3) "_law_thing_of" (spThing K (n + 1)) := by
  refine F.ok (k := n + 2) sc_law_thing_of (fun vs H Q E h => ?_) (fun f cdv A outer s H vs Q E hr h => ?_)
  · obtain ⟨p, u, f, d, rfl, _⟩ := h
    rfl
  obtain ⟨p, u, f, d, rfl, hp, hu, hw, hrk, q⟩ := h
  refine ⟨_, (pss_cons (ps_if (pt_cmpR op_eq (pe_ix ix_tup (pv 1) pe_int (fun _ _ => rfl)) pe_str (nomark _)) (pss_one (ps_ret (pc c_law_chars hr (by omega) rfl (pa_cons (pv 0) pa_nil)))) pss_nil)
      (pss_cons (ps_if (pt_cmpR op_eq (pe_ix ix_tup (pv 1) pe_int (fun _ _ => rfl)) pe_str (nomark _)) (pss_one (ps_ret (pe_ix ix_list (pe_lst (pa_cons (pc c_law_draw hr (by omega) rfl (pa_cons (pv 0) (pa_cons pe_int pa_nil))) (pa_cons (pe_un un_neg (pc c_law_draw hr (by omega) rfl (pa_cons (pv 0) (pa_cons pe_int pa_nil)))) (pa_cons (pe_op op_sub (pe_op op_pow pe_int pe_int) (pc c_law_draw hr (by omega) rfl (pa_cons (pv 0) (pa_cons pe_int pa_nil)))) pa_nil)))) (pc c_law_draw hr (by omega) rfl (pa_cons (pv 0) (pa_cons pe_int pa_nil))) (fun _ _ => rfl)))) pss_nil)
      (pss_cons (ps_if (pt_cmpR op_eq (pe_ix ix_tup (pv 1) pe_int (fun _ _ => rfl)) pe_str (nomark _)) (pss_one (ps_ret (pe_cmpR op_eq (pc c_law_draw hr (by omega) rfl (pa_cons (pv 0) (pa_cons pe_int pa_nil))) pe_int (nomark _)))) pss_nil)
      (pss_cons (ps_if (pt_cmpR op_eq (pe_ix ix_tup (pv 1) pe_int (fun _ _ => rfl)) pe_str (nomark _)) (pss_one (ps_ret (pe_ifExp (pt_cmpR op_gt (pc c_law_draw hr (by omega) rfl (pa_cons (pv 0) (pa_cons pe_int pa_nil))) pe_int (nomark _)) (pe_frz (pc c_law_thing_of hr (by omega) rfl (pa_cons (pv 0) (pa_cons (pe_ix ix_tup (pv 1) pe_int (fun _ _ => rfl)) pa_nil)))) pe_non))) pss_nil)
      (pss_cons (ps_if (pt_cmpR op_eq (pe_ix ix_tup (pv 1) pe_int (fun _ _ => rfl)) pe_str (nomark _)) (pss_cons (ps_set (i := 2) sc_law_thing_of.nd rfl (Or.inl rfl) pe_dnewK)
      (pss_cons (ps_for PassesOwn.never rfl (pi_tup (pe_ix ix_tup (pv 1) pe_int (fun _ _ => rfl))) (pg_tup rfl (pgs_cons (pg_name (i := 3) sc_law_thing_of.nd rfl (Or.inl rfl)) (pgs_cons (pg_name (i := 4) sc_law_thing_of.nd rfl (Or.inl rfl)) pgs_nil))) (pss_one (ps_dput (hu_of hr) (pv 2) (pv 3) (pe_frz (pc c_law_thing_of hr (by omega) rfl (pa_cons (pv 0) (pa_cons (pv 4) pa_nil)))) rfl)))
      (pss_one (ps_ret (pv 2))))) pss_nil)
      (pss_cons (ps_setLc (i := 2) (own := [("_law_k", 5)]) (g := gName 5) (te := tFrz (tCall (spThing K n) [] E0 (tCons (tVar 0) (tCons (tOp (rIxT K) (tVar 1) (tC (.int 1))) tNil)))) (tt := tYes) rfl sc_law_thing_of.nd rfl rfl (sw_true rfl rfl rfl (by decide +kernel)) (pi_range1 rfl T.rng (pa_cons (pc c_law_draw hr (by omega) rfl (pa_cons (pv 0) (pa_cons pe_int pa_nil))) pa_nil)) (blkOk_by (own := [("_law_k", 5)]) (N := ["_law_pool_here", "_law_form_here", "_law_found", "_law_word", "_law_inner", "_law_k", "_law_numbers"]) (sc := defScope st_law_thing_of) (by decide +kernel)) (fun _ _ _ _ _ => (pg_name (i := 5) sc_law_thing_of.nd rfl (Or.inl rfl))) (fun _ _ _ _ _ => pts_nil) (fun _ _ _ _ _ => (pe_frz (pc c_law_thing_of hr (by omega) rfl (pa_cons (pv 0) (pa_cons (pe_ix ix_tup (pv 1) pe_int (fun _ _ => rfl)) pa_nil))))))
      (pss_cons (ps_if (pt_cmpR op_eq (pe_ix ix_tup (pv 1) pe_int (fun _ _ => rfl)) pe_str (nomark _)) (pss_one (ps_for PassesOwn.never rfl (pi_range1 rfl T.rng (pa_cons (pe_callB call_len_seq rfl T.len PySem.boot_len (pa_cons (pv 2) pa_nil)) pa_nil)) (pg_name (i := 5) sc_law_thing_of.nd rfl (Or.inl rfl)) (pss_cons (ps_set (i := 6) sc_law_thing_of.nd rfl (Or.inl rfl) (pe_cmpR (op_eqD hr.units) (pe_ix ix_tup (pe_ix ix_tup (pe_ix ix_tup (pe_ix ix_tup (pv 1) pe_int (fun _ _ => rfl)) pe_int (fun _ _ => rfl)) pe_int (fun _ _ => rfl)) pe_int (fun _ _ => rfl)) (pe_tup (pa_cons pe_str pa_nil)) (nomark _)))
      (pss_one (ps_dput (hu_of hr) (pe_ix ix_list (pv 2) (pv 5) (fun _ _ => rfl)) (pe_ix ix_tup (pv 1) pe_int (fun _ _ => rfl)) (pe_ifExp (pt_val (pv 6)) (pe_op op_add (pe_op op_mul (pv 5) pe_int) (pc c_law_draw hr (by omega) rfl (pa_cons (pv 0) (pa_cons pe_int pa_nil)))) (pe_op op_mulS pe_str (pe_op op_add (pv 5) pe_int))) rfl))))) pss_nil)
      (pss_one (ps_ret (pe_frz (pe_callTy call_tuple_of rfl T.tup (by decide +kernel) (pa_cons (pv 2) pa_nil)))))))))))), ?_⟩
  obtain ⟨a, xs, rfl, hT, hx0⟩ := hu.tagged
  cases f with
  | text =>
    refine st_ifb (ans_tag (b := true) rfl hT hx0 (by decide +kernel)) ?_
    refine iteT ?_
    exact ⟨_, rfl, p, rfl, hp, fun x H' pl hl => q _ (.str x) H' pl (.text hl) (.inl (.str x)) (fun ns fs e => by cases e)⟩
  | number =>
    refine st_ifb (ans_tag (b := false) rfl hT hx0 (by decide +kernel)) ?_
    refine iteF ?_
    refine st_ifb (ans_tag (b := true) rfl hT hx0 (by decide +kernel)) ?_
    refine iteT ?_
    refine ⟨_, rfl, p, 10, rfl, hp, by decide, by decide, fun d1 H1 pl1 _ _ => ⟨_, rfl, p, 100, rfl, pl1.pool, by decide, by decide, fun d2 H2 pl2 _ _ => ⟨_, rfl, _, _, rfl, rfl, ⟨by decide, by decide, by decide⟩, _, rfl, p, 5, rfl, pl2.pool, by decide, by decide, fun d3 H3 pl3 _ _ => ?_⟩⟩⟩
    refine ⟨_, _, rfl, rfl, by show 3 ≤ sizeLine; decide, fun l hl => ?_⟩
    have pl4 := ((pl1.trans pl2).trans pl3).ex (Ex.new (o := .lst [.int d1, .int (-d2), .int (10 ^ (20 : Int).toNat - d3)]) hl)
    have nl : l ≠ p := by
      obtain ⟨_, _, _, z, _⟩ := pl3.pool
      exact (ne_of_none z hl).symm
    refine ⟨_, rfl, p, 3, rfl, pl4.pool, by decide, by decide, fun g0 H5 pl5 g1 g2 => ?_⟩
    obtain ⟨g, rfl⟩ := Int.eq_ofNat_of_zero_le g1
    obtain ⟨z, hz⟩ : ∃ z : Int, [V.int d1, V.int (-d2), V.int (10 ^ (20 : Int).toNat - d3)][g]? = some (.int z) := by
      have hc : g = 0 ∨ g = 1 ∨ g = 2 := by omega
      rcases hc with rfl | rfl | rfl
      · exact ⟨_, rfl⟩
      · exact ⟨_, rfl⟩
      · exact ⟨_, rfl⟩
    exact ⟨l, _, _, _, rfl, rfl, SqL.of (pl5.keep _ _ nl upd_same), at_of rfl hz, q _ (.int z) H5 (pl4.trans pl5) (.number z) (.inl (.int z)) (fun ns fs e => by cases e)⟩
  | flag =>
    refine st_ifb (ans_tag (b := false) rfl hT hx0 (by decide +kernel)) ?_
    refine iteF ?_
    refine st_ifb (ans_tag (b := false) rfl hT hx0 (by decide +kernel)) ?_
    refine iteF ?_
    refine st_ifb (ans_tag (b := true) rfl hT hx0 (by decide +kernel)) ?_
    refine iteT ?_
    exact ⟨_, rfl, p, 2, rfl, hp, by decide, by decide, fun d1 H1 pl1 _ _ => ⟨rfl, q _ (.bl _) H1 pl1 (.flag _) (.inl (.bl _)) (fun ns fs e => by cases e)⟩⟩
  | opt g =>
    have hg : Wf d g ∧ isOpt g = false := by cases hw with | opt h1 h2 => exact ⟨h1, h2⟩
    have hrk2 : rank d g < n := by
      unfold rank at hrk ⊢
      rw [hg.2]
      rw [show isOpt (.opt g) = true from rfl] at hrk
      simp at hrk ⊢
      omega
    unfold FmAt at hu
    simp only [pd] at hu
    obtain ⟨a', xs', e, hT', hA⟩ := Dp.tupInv hu
    cases e
    cases hA with
    | cons a1 hA =>
    cases hA with
    | cons a2 hA =>
    cases hA
    cases a1
    rename_i vg
    refine st_ifb (ans_tag (b := false) rfl hT' rfl (by decide +kernel)) ?_
    refine iteF ?_
    refine st_ifb (ans_tag (b := false) rfl hT' rfl (by decide +kernel)) ?_
    refine iteF ?_
    refine st_ifb (ans_tag (b := false) rfl hT' rfl (by decide +kernel)) ?_
    refine iteF ?_
    refine st_ifb (ans_tag (b := true) rfl hT' rfl (by decide +kernel)) ?_
    refine iteT ?_
    refine ⟨_, rfl, p, 3, rfl, hp, by decide, by decide, fun d1 H1 pl1 _ _ => ⟨_, _, rfl, rfl, _, rfl, ?_⟩⟩
    refine ite2 (fun _ => ?_) (fun _ => ?_)
    · refine ⟨_, rfl, val_tag (j := 1) rfl ((pl1.im hp).sqT hT') rfl _ ⟨p, vg, g, d, rfl, pl1.pool, Dp.im (pl1.im hp) (noL_pd g) a2, hg.1, hrk2, fun v t H2 pl2 hf ho _ => .done (q v t H2 (pl1.trans pl2) (.some hf) ?_ (fun ns fs e => by cases e))⟩⟩
      rcases ho with ho | ⟨b, ns, ts, rfl, rfl, h0, hd⟩
      · exact .inl ho
      · exact .inr ⟨b, ns, ts, rfl, rfl, Pl.free hp pl1 h0, hd⟩
    · exact q _ .non H1 pl1 (.none g) (.inl .non) (fun ns fs e => by cases e)
  | rcd ns fs =>
    cases hw with
    | @rcd d' _ _ hfl hn3 hnm hnd hwf =>
    have hrk2 : ∀ g, rank d' g < n := fun g => by
      have := rank_lt (d := d') (f := g)
      unfold rank at hrk
      rw [show isOpt (.rcd ns fs) = false from rfl] at hrk
      simp at hrk
      omega
    unfold FmAt at hu
    simp only [pd] at hu
    obtain ⟨a', xs', e, hT', hA⟩ := Dp.tupInv hu
    cases e
    cases hA with
    | cons a1 hA =>
    cases hA with
    | cons a2 hA =>
    cases hA
    cases a1
    obtain ⟨b, ys, rfl, hT2, hA2⟩ := Dp.tupInv a2
    have hyl : ys.length = ns.length := by rw [DpAll.length hA2, pds_len hfl.symm]
    refine st_ifb (ans_tag (b := false) rfl hT' rfl (by decide +kernel)) ?_
    refine iteF ?_
    refine st_ifb (ans_tag (b := false) rfl hT' rfl (by decide +kernel)) ?_
    refine iteF ?_
    refine st_ifb (ans_tag (b := false) rfl hT' rfl (by decide +kernel)) ?_
    refine iteF ?_
    refine st_ifb (ans_tag (b := false) rfl hT' rfl (by decide +kernel)) ?_
    refine iteF ?_
    refine st_ifb (ans_tag (b := true) rfl hT' rfl (by decide +kernel)) ?_
    refine iteT ?_
    intro D hD
    have e0 : Ex H (upd H D (.dK [])) := Ex.new hD
    have pl0 := Pl.of_ex hp e0
    have np : D ≠ p := by
      obtain ⟨_, _, _, z, _⟩ := hp
      exact (ne_of_none z hD).symm
    refine val_tag (j := 1) rfl ((Im.ex e0).sqT hT') rfl _ ⟨b, rfl, ⟨ys, (Im.ex e0).sqT hT2⟩, for_tup (K := K) (a := b) (xs := ys)
      (fun i σ H' => ∃ nm1 nm2 ts, σ = [some (.ref p), some (.ref a), some (.ref D), nm1, nm2, none, none] ∧ Pl p H H' ∧ ts.length = i ∧ (∀ (j : Nat) f t, fs[j]? = some f → ts[j]? = some t → Fits f t) ∧ DcAt H' D (ns.take i) ts)
      ⟨none, none, [], rfl, pl0, rfl, fun j f t _ h => by simp at h, [], upd_same, rfl, rfl, fun j f t _ h => by simp at h⟩ (fun i σ H' _ h => let ⟨_, _, _, _, h2, _⟩ := h; (h2.im hp).sqT hT2) ?_ ?_⟩
    · rintro i x σ H' hx ⟨nm1, nm2, ts, rfl, pl, htl, hft, hdc⟩
      have hin : i < ns.length := by have := (List.getElem?_eq_some_iff.mp hx).1; omega
      obtain ⟨m, hm⟩ : ∃ m, ns[i]? = some m := ⟨_, List.getElem?_eq_getElem hin⟩
      obtain ⟨g, hg⟩ : ∃ g, fs[i]? = some g := ⟨_, List.getElem?_eq_getElem (by omega)⟩
      obtain ⟨dd, hd1, hd2⟩ := DpAll.getV hA2 hx
      rw [pds_get hm hg] at hd1
      cases hd1
      obtain ⟨c, zs, rfl, hTc, hAc⟩ := Dp.tupInv hd2
      cases hAc with
      | cons c1 hAc =>
      cases hAc with
      | cons c2 hAc =>
      cases hAc
      cases c1
      rename_i vf
      have hnot : m ∉ ns.take i := by
        intro h
        obtain ⟨j, hj⟩ := List.mem_iff_getElem?.mp h
        rw [List.getElem?_take] at hj
        by_cases hji : j < i
        · rw [if_pos hji] at hj
          have := nodup_at hnd hj hm
          omega
        · rw [if_neg hji] at hj
          cases hj
      have htk : ns.take (i + 1) = ns.take i ++ [m] := by rw [List.take_add_one, hm]; rfl
      refine ⟨c, _, rfl, (pl.im hp).sqT hTc, rfl, _, _, rfl, _, _, rfl, rfl, ?_⟩
      refine ⟨_, rfl, _, rfl, p, vf, g, d', rfl, pl.pool, Dp.im (pl.im hp) (noL_pd g) c2, hwf g (List.mem_of_getElem? hg), hrk2 g, fun v t H2 pl2 hf ho _ => ho.frz pl.pool pl2 fun H3 pl3 im3 ht => ?_⟩
      have hdc3 := hdc.keep pl.pool pl3
      obtain ⟨kvs, h1, hl, hdc4⟩ := hdc3.put hnot ht
      refine ⟨_, rfl, _, rfl, D, _, rfl, DPut.k (k := Sum.inr m) h1 (szl (by rw [hl, List.length_take]; omega)), ?_⟩
      refine ⟨_, _, ts ++ [t], rfl, (pl.trans pl3).mut hp hD, by simp [htl], fun j f' t' hf' ht' => ?_, by rw [htk]; exact hdc4⟩
      by_cases hj : j < ts.length
      · rw [List.getElem?_append_left hj] at ht'
        exact hft j f' t' hf' ht'
      · rw [List.getElem?_append_right (by omega)] at ht'
        have h0 : j - ts.length = 0 := by
          cases q : j - ts.length with
          | zero => rfl
          | succ k => rw [q] at ht'; simp at ht'
        rw [h0] at ht'
        simp at ht'
        subst ht'
        have hji : j = i := by omega
        subst hji
        rw [hg] at hf'
        cases hf'
        exact hf
    · rintro σ H' ⟨nm1, nm2, ts, rfl, pl, htl, hft, hdc⟩
      rw [List.take_of_length_le (by omega)] at hdc
      exact ⟨_, rfl, q _ (.rcd ns ts) H' pl (.rcd (by omega) hft) (.inr ⟨D, ns, ts, rfl, rfl, hD, hdc⟩) (fun ns' fs' e => by cases e; exact ⟨D, ts, rfl, rfl, hD, hdc⟩)⟩
  | list g =>
    cases hw with
    | @list d' _ hwg =>
    have hrk2 : rank d' g < n := by
      have := rank_lt (d := d') (f := g)
      unfold rank at hrk
      rw [show isOpt (.list g) = false from rfl] at hrk
      simp at hrk
      omega
    unfold FmAt at hu
    simp only [pd] at hu
    obtain ⟨a', xs', e, hT', hA⟩ := Dp.tupInv hu
    cases e
    cases hA with
    | cons a1 hA =>
    cases hA with
    | cons a2 hA =>
    cases hA
    cases a1
    rename_i vg
    refine st_ifb (ans_tag (b := false) rfl hT' rfl (by decide +kernel)) ?_
    refine iteF ?_
    refine st_ifb (ans_tag (b := false) rfl hT' rfl (by decide +kernel)) ?_
    refine iteF ?_
    refine st_ifb (ans_tag (b := false) rfl hT' rfl (by decide +kernel)) ?_
    refine iteF ?_
    refine st_ifb (ans_tag (b := false) rfl hT' rfl (by decide +kernel)) ?_
    refine iteF ?_
    refine st_ifb (ans_tag (b := false) rfl hT' rfl (by decide +kernel)) ?_
    refine iteF ?_
    refine ⟨_, rfl, p, 4, rfl, hp, by decide, by decide, fun m0 H6 pl6 m1 m2 => ?_⟩
    obtain ⟨m, rfl⟩ := Int.eq_ofNat_of_zero_le m1
    refine ⟨_, rfl, by omega, by omega, fun D hD => lc_gen (walk_range (n := m)) (fun H' => Pl p H6 H') (fun i v H' => ∃ t, Fits g t ∧ ThAt H' v t) (Pl.new pl6.pool (Pl.refl pl6.pool) hD) (fun H' o e => e.mut pl6.pool hD) (fun H' e => trivial)
      (fun i v H' H'' h m => let ⟨t, h1, h2⟩ := h; ⟨t, h1, h2.im m⟩) (szl (by omega)) ?_ ?_⟩
    · rintro i x H' H'' C hi fr hacc ⟨rfl, rfl⟩ kk
      have np : D ≠ p := by
        obtain ⟨_, _, _, z, _⟩ := pl6.pool
        exact (ne_of_none z hD).symm
      have im := (pl6.im hp).trans (fr.im pl6.pool)
      refine ⟨rfl, _, rfl, val_tag (j := 1) rfl (im.sqT hT') rfl _ ⟨p, vg, g, d', rfl, fr.pool, Dp.im im (noL_pd g) a2, hwg, hrk2, fun v t H2 pl2 hf ho _ => ho.frz fr.pool pl2 fun H3 pl3 im3 ht => ?_⟩⟩
      exact kk _ _ (fr.trans pl3) (pl3.im fr.pool) (pl_at pl3 np hacc) ⟨t, hf, ht⟩
    · intro H5 acc fr hacc hl hall
      obtain ⟨ts, htl, hts⟩ : ∃ ts : List Th, ts.length = acc.length ∧ ∀ (i : Nat) v t, acc[i]? = some v → ts[i]? = some t → Fits g t ∧ ThAt H5 v t := by
        clear hacc hl
        induction acc with
        | nil => exact ⟨[], rfl, fun i v t h => by simp at h⟩
        | cons v r ih =>
          obtain ⟨t, h1, h2⟩ := hall 0 v rfl
          obtain ⟨ts, h3, h4⟩ := ih fun i u hu => hall (i + 1) u (by simpa using hu)
          refine ⟨t :: ts, by simp [h3], fun i u s hu hs => ?_⟩
          cases i with
          | zero =>
            simp at hu hs
            subst hu hs
            exact ⟨h1, h2⟩
          | succ i => exact h4 i u s (by simpa using hu) (by simpa using hs)
      have im := (pl6.im hp).trans (fr.im pl6.pool)
      refine st_ifb (ans_tag (b := false) rfl (im.sqT hT') rfl (by decide +kernel)) ?_
      refine iteF ?_
      refine ⟨_, rfl, D, acc, rfl, .inl ⟨SqL.of hacc, fun l hl2 => .done ?_⟩⟩
      refine q _ (.lst ts) _ ((pl6.trans fr).ex (Ex.new hl2)) (.list (by omega) fun t ht => ?_) (.inl (.lst upd_same htl.symm fun i v t h1 h2 => (hts i v t h1 h2).2.im (Im.new hl2))) (fun ns fs e => by cases e)
      obtain ⟨i, hi⟩ := List.mem_iff_getElem?.mp ht
      obtain ⟨v, hv⟩ : ∃ v, acc[i]? = some v := ⟨_, List.getElem?_eq_getElem (by have := (List.getElem?_eq_some_iff.mp hi).1; omega)⟩
      exact (hts i v t hv hi).1
  | keyed g kk =>
    cases hw with
    | @keyed d' _ ns f0 fs hwr hf0 =>
    have hrk2 : rank d' (.rcd (kk :: ns) (f0 :: fs)) < n := by
      have := rank_lt (d := d') (f := .rcd (kk :: ns) (f0 :: fs))
      unfold rank at hrk
      rw [show isOpt (.keyed (.rcd (kk :: ns) (f0 :: fs)) kk) = false from rfl] at hrk
      simp at hrk
      omega
    obtain ⟨hn3, hnd⟩ := hwr.rcdOk
    obtain ⟨x0, hpf0, hx0'⟩ : ∃ x0 : Str, pd f0 = .tuple [.str x0] ∧ ((f0 = .text ∧ x0 = "text") ∨ (f0 = .number ∧ x0 = "number")) := by
      rcases hf0 with rfl | rfl
      · exact ⟨"text", by simp only [pd], .inl ⟨rfl, rfl⟩⟩
      · exact ⟨"number", by simp only [pd], .inr ⟨rfl, rfl⟩⟩
    unfold FmAt at hu
    rw [pd] at hu
    obtain ⟨a', xs', e, hT', hA⟩ := Dp.tupInv hu
    cases e
    cases hA with
    | cons a1 hA =>
    cases hA with
    | cons a2 hA =>
    cases hA with
    | cons a3 hA =>
    cases hA
    cases a1
    cases a3
    have a2' := a2
    simp only [pd, pds] at a2'
    obtain ⟨b1, ys1, rfl, hTb1, hB1⟩ := Dp.tupInv a2'
    cases hB1 with
    | cons c1 hB1 =>
    cases hB1 with
    | cons c2 hB1 =>
    cases hB1
    cases c1
    obtain ⟨b2, ys2, rfl, hTb2, hB2⟩ := Dp.tupInv c2
    cases hB2 with
    | cons c3 hB2 =>
    obtain ⟨b3, ys3, rfl, hTb3, hB3⟩ := Dp.tupInv c3
    cases hB3 with
    | cons c4 hB3 =>
    cases hB3 with
    | cons c5 hB3 =>
    cases hB3
    cases c4
    rename_i v0
    rw [hpf0] at c5
    refine st_ifb (ans_tag (b := false) rfl hT' rfl (by decide +kernel)) ?_
    refine iteF ?_
    refine st_ifb (ans_tag (b := false) rfl hT' rfl (by decide +kernel)) ?_
    refine iteF ?_
    refine st_ifb (ans_tag (b := false) rfl hT' rfl (by decide +kernel)) ?_
    refine iteF ?_
    refine st_ifb (ans_tag (b := false) rfl hT' rfl (by decide +kernel)) ?_
    refine iteF ?_
    refine st_ifb (ans_tag (b := false) rfl hT' rfl (by decide +kernel)) ?_
    refine iteF ?_
    refine ⟨_, rfl, p, 4, rfl, hp, by decide, by decide, fun m0 H6 pl6 m1 m2 => ?_⟩
    obtain ⟨m, rfl⟩ := Int.eq_ofNat_of_zero_le m1
    refine ⟨_, rfl, by omega, by omega, fun D hD => ?_⟩
    have np : D ≠ p := by
      obtain ⟨_, _, _, z, _⟩ := pl6.pool
      exact (ne_of_none z hD).symm
    refine lc_it (walk_range (n := m)) (fun i H' => ∃ as tss, Pl p H6 H' ∧ H' D = some (.lst (as.map V.ref)) ∧ as.length = i ∧ KeyAt H6 H' (kk :: ns) as tss ∧ ∀ (j : Nat) ts, tss[j]? = some ts → Fits (.rcd (kk :: ns) (f0 :: fs)) (.rcd (kk :: ns) ts))
      ⟨[], [], Pl.new pl6.pool (Pl.refl pl6.pool) hD, upd_same, rfl, ⟨rfl, List.nodup_nil, (fun a h => by simp at h), fun j a ts h => by simp at h⟩, fun j ts h => by simp at h⟩ (fun i H' _ _ => trivial) ?_ ?_
    · rintro i x H' H'' hi ⟨as, tss, fr, hacc, hal, hk, hft⟩ ⟨rfl, rfl⟩
      have im := (pl6.im hp).trans (fr.im pl6.pool)
      refine ⟨rfl, _, rfl, val_tag (j := 1) rfl (im.sqT hT') rfl _ ⟨p, _, _, d', rfl, fr.pool, Dp.im im (noL_pd _) a2, hwr, hrk2, fun v t H2 pl2 hf _ hr => .done ?_⟩⟩
      obtain ⟨a, ts, rfl, rfl, hnew, hdc⟩ := hr _ _ rfl
      have hD2 : H2 D = some (.lst (as.map V.ref)) := pl2.keep _ _ np hacc
      have im5 : Im H2 (upd H2 D (.lst (as.map V.ref ++ [.ref a]))) := Im.lst hD2
      have hne : ∀ {b : Addr} {kvs : List (Key × V)}, H2 b = some (.dK kvs) → b ≠ D := by
        rintro b kvs e rfl
        rw [hD2] at e
        cases e
      have hk2 := hk.keep fr.pool pl2
      have hk3 := hk2.snoc (a := a) (ts := ts) (fun h => by
        obtain ⟨kvs, e⟩ := hk.is h
        rw [hnew] at e
        cases e) (Pl.free pl6.pool fr hnew) hdc
      refine ⟨_, hD2, szl (by rw [List.length_map]; omega), as ++ [a], tss ++ [ts], (fr.trans pl2).mut pl6.pool hD, by rw [upd_same, List.map_append]; rfl, by simp [hal], hk3.mv (fun b hb => ?_) im5, fun j us hus => ?_⟩
      · obtain ⟨kvs, e⟩ := hk3.is hb
        exact upd_ne (hne e)
      · by_cases hj : j < tss.length
        · rw [List.getElem?_append_left hj] at hus
          exact hft j us hus
        · rw [List.getElem?_append_right (by omega)] at hus
          have h0 : j - tss.length = 0 := by
            cases q : j - tss.length with
            | zero => rfl
            | succ k => rw [q] at hus; simp at hus
          rw [h0] at hus
          simp at hus
          subst hus
          exact hf
    · rintro H5 ⟨as, tss, fr, hacc, hal, hk, hft⟩
      have im5 := (pl6.im hp).trans (fr.im pl6.pool)
      refine st_ifb (ans_tag (b := true) rfl (im5.sqT hT') rfl (by decide +kernel)) ?_
      refine iteT ?_
      have hlm : (as.map V.ref).length = as.length := List.length_map ..
      refine ⟨_, rfl, D, _, rfl, .inl (SqL.of hacc), _, rfl, by omega, by omega, for_range (n := (as.map V.ref).length) (fun i σ H' => ∃ nm num tss, σ = [some (.ref p), some (.ref a), some (.ref D), none, none, nm, num] ∧ Pl p H6 H' ∧ H' D = some (.lst (as.map V.ref)) ∧ KeyAt H6 H' (kk :: ns) as tss ∧ ∀ (j : Nat) ts, tss[j]? = some ts → Fits (.rcd (kk :: ns) (f0 :: fs)) (.rcd (kk :: ns) ts))
        ⟨none, none, tss, rfl, fr, hacc, hk, hft⟩ ?_ ?_⟩
      · rintro i σ H' hi ⟨nm, num, tss, rfl, fr, hacc, hk, hft⟩
        have im := (pl6.im hp).trans (fr.im pl6.pool)
        refine ⟨_, rfl, a, _, _, .ref b1, rfl, rfl, im.sqT hT', at_of (j := 1) rfl rfl, b1, _, _, .ref b2, rfl, rfl, im.sqT hTb1, at_of (j := 1) rfl rfl, b2, _, _, .ref b3, rfl, rfl, im.sqT hTb2, at_of (j := 0) rfl rfl, b3, _, _, v0, rfl, rfl, im.sqT hTb3, at_of (j := 1) rfl rfl, by show 1 ≤ sizeLine; decide, fun c hc => ?_⟩
        have e8 : Ex H' (upd H' c (.tup [.str "number"])) := Ex.new hc
        have im8 := im.trans (Im.ex e8)
        have fr8 := fr.ex e8
        have hk8 := hk.keep fr.pool (Pl.of_ex fr.pool e8)
        have hacc8 := e8 _ _ hacc
        refine ⟨_, _, Dp.im im8 rfl c5, .tup (SqT.of upd_same) (.cons (.str _) .nil), shaped_tag (by rcases hx0' with ⟨_, e⟩ | ⟨_, e⟩ <;> simp [e]), shaped_tag (.inr rfl), ?_⟩
        generalize upd H' c (.tup [.str "number"]) = H8 at im8 fr8 hk8 hacc8 ⊢
        have hi3 : i < 3 := by omega
        have hia : i < as.length := by omega
        refine ⟨_, rfl, _, rfl, ?_⟩
        rcases hx0' with ⟨rfl, rfl⟩ | ⟨rfl, rfl⟩
        · rw [show PyData.eqv (.tuple [.str "text"]) (.tuple [.str "number"]) = false by decide +kernel]
          refine iteF ?_
          have hz2 : Fits .text (.str (Txt.mul ("k" : Str) (0 + (i : Int) + 1))) := by
            rw [show 0 + (i : Int) + 1 = ((i + 1 : Nat) : Int) by omega]
            exact .text (k_texts i hi3)
          obtain ⟨a9, kvs, tss', ha9, hd9, hl9, hk9, hf9⟩ := key_step hk8 hnd hn3 hft (ThAt.str _) hz2 hia
          have hne : D ≠ a9 := by
            rintro rfl
            rw [hacc8] at hd9
            cases hd9
          refine ⟨_, rfl, _, _, rfl, rfl, _, _, rfl, rfl, by show 1 ≤ 4095; decide, by show (0 : Int) ≤ 0 + (i : Int) + 1; omega, by show 0 + (i : Int) + 1 ≤ (4095 : Int); omega, _, rfl, _, rfl, D, _, _, .ref a9, rfl, rfl, SqL.of hacc8, at_of (j := i) (by omega) (by rw [List.getElem?_map, ha9]; rfl), ?_⟩
          refine val_tag (j := 2) rfl (im8.sqT hT') rfl _ ⟨a9, _, rfl, DPut.k (k := Sum.inr kk) hd9 (szl (by omega)), ?_⟩
          exact ⟨_, _, tss', rfl, fr8.mut pl6.pool (hk8.new a9 (List.mem_of_getElem? ha9)), by rw [upd_ne hne]; exact hacc8, hk9, hf9⟩
        · rw [show PyData.eqv (.tuple [.str "number"]) (.tuple [.str "number"]) = true by decide +kernel]
          refine iteT ?_
          refine ⟨_, rfl, _, _, rfl, rfl, cmul_l (by omega), _, rfl, p, 3, rfl, fr8.pool, by decide, by decide, fun dz H9 pl9 _ _ => ?_⟩
          have hk9 := hk8.keep fr8.pool pl9
          have hacc9 := pl9.keep _ _ np hacc8
          have im9 := im8.trans (pl9.im fr8.pool)
          have fr9 := fr8.trans pl9
          obtain ⟨a9, kvs, tss', ha9, hd9, hl9, hk10, hf9⟩ := key_step hk9 hnd hn3 hft (ThAt.int ((0 + (i : Int)) * 3 + dz)) (.number _) hia
          have hne : D ≠ a9 := by
            rintro rfl
            rw [hacc9] at hd9
            cases hd9
          refine ⟨_, _, rfl, rfl, _, rfl, _, rfl, D, _, _, .ref a9, rfl, rfl, SqL.of hacc9, at_of (j := i) (by omega) (by rw [List.getElem?_map, ha9]; rfl), ?_⟩
          refine val_tag (j := 2) rfl (im9.sqT hT') rfl _ ⟨a9, _, rfl, DPut.k (k := Sum.inr kk) hd9 (szl (by omega)), ?_⟩
          exact ⟨_, _, tss', rfl, fr9.mut pl6.pool (hk9.new a9 (List.mem_of_getElem? ha9)), by rw [upd_ne hne]; exact hacc9, hk10, hf9⟩
      · rintro σ H' ⟨nm, num, tss, rfl, fr, hacc, hk, hft⟩
        refine ⟨_, rfl, D, _, rfl, .inl ⟨SqL.of hacc, fun l hl => ?_⟩⟩
        have e8 : Ex H' (upd H' l (.tup (as.map V.ref))) := Ex.new hl
        have hk8 := hk.keep fr.pool (Pl.of_ex fr.pool e8)
        refine frz_all hk8.len hk8.nd hk8.dc fun H9 im9 ho hall => ?_
        have pl8 := (pl6.trans fr).ex e8
        have hnew : ∀ b ∈ as, H b = none := fun b hb => Pl.free hp pl6 (hk8.new b hb)
        have hpa : p ∉ as := by
          intro h
          have e := hnew p h
          obtain ⟨_, _, _, z, _⟩ := hp
          rw [z] at e
          cases e
        refine q _ (.lst (tss.map (.rcd (kk :: ns)))) H9 ⟨?_, fun b o hb e => ?_⟩ (.keyed (by rw [List.length_map, ← hk.len]; omega) fun t ht => ?_) (.inl (.lst (im9.tup _ _ upd_same) (by simp [hk.len]) fun i v t hv ht => ?_)) (fun ns fs e => by cases e)
        · obtain ⟨s, g, c, z, r⟩ := pl8.pool
          exact ⟨s, g, c, (ho p hpa).trans z, r⟩
        · have hba : b ∉ as := by
            intro h
            have e2 := hnew b h
            rw [e2] at e
            cases e
          rw [ho b hba]
          exact pl8.keep b o hb e
        · obtain ⟨ts, hts, rfl⟩ := List.mem_map.mp ht
          obtain ⟨j, hj⟩ := List.mem_iff_getElem?.mp hts
          exact hft j ts hj
        · rw [List.getElem?_map] at hv ht
          cases e1 : as[i]? with
          | none => rw [e1] at hv; cases hv
          | some b =>
            cases e2 : tss[i]? with
            | none => rw [e2] at ht; cases ht
            | some us =>
              rw [e1] at hv
              rw [e2] at ht
              cases hv
              cases ht
              exact hall i b us e1 e2
theorem thing_all (T : Bi mg) (F : Df K mg "_law_thing_of" ["_law_pool_here", "_law_form_here"] st_law_thing_of) (c_law_draw : Cl P w K mg base 1 "_law_draw" spDraw) (c_law_chars : Cl P w K mg base 2 "_law_chars" spChars) :
    ∀ n : Nat, Cl P w K mg base (n + 2) "_law_thing_of" (spThing K n)
  | 0 => thing_none F
  | n + 1 => ok_thing_of n T F c_law_draw c_law_chars (thing_all T F c_law_draw c_law_chars n)
end
end RT
/-! what a scope lets be read -/
namespace RT
open PySem PySem.Spec PyProof.Rows L2 Evl
theorem pathF_app : ∀ (a b : List Str) (f : Fm), pathF (a ++ b) f = (pathF a f).bind (pathF b)
  | [], b, f => rfl
  | n :: r, b, f => by
    cases f with
    | rcd ns fs =>
      simp only [List.cons_append, pathF]
      cases fieldOf ns fs n with
      | none => rfl
      | some g => simpa using pathF_app r b g
    | _ => simp [pathF]
theorem lookF_snoc {sc : Str → Option Fm} {r : List Str} {ns : List Str} {fs : List Fm} {n : Str} {g : Fm} (h : lookF sc r = some (.rcd ns fs)) (e : fieldOf ns fs n = some g) : lookF sc (r ++ [n]) = some g := by
  cases r with
  | nil => simp [lookF] at h
  | cons m r =>
    simp only [lookF, List.cons_append] at h ⊢
    cases q : sc m with
    | none => rw [q] at h; simp at h
    | some f0 =>
      rw [q] at h
      have h' : pathF r f0 = some (.rcd ns fs) := by simpa using h
      show (some f0).bind (pathF (r ++ [n])) = some g
      rw [Option.bind_some, pathF_app, h']
      simp [pathF, e]
mutual
def rsz : Fm → Nat
  | .rcd _ fs => rszs fs + 1
  | _ => 1
def rszs : List Fm → Nat
  | [] => 0
  | f :: r => rsz f + rszs r
end
theorem rszs_app : ∀ a b : List Fm, rszs (a ++ b) = rszs a + rszs b
  | [], b => by simp [rszs]
  | f :: r, b => by simp [rszs, rszs_app r b, Nat.add_assoc]
theorem rszs_le {n : Nat} : ∀ {fs : List Fm}, (∀ f ∈ fs, rsz f ≤ n) → rszs fs ≤ fs.length * n
  | [], _ => by simp [rszs]
  | f :: r, h => by
    have h1 := h f (by simp)
    have h2 := rszs_le (fs := r) fun g hg => h g (by simp [hg])
    simp only [rszs, List.length_cons, Nat.succ_mul]
    omega
theorem rsz_pos (f : Fm) : 1 ≤ rsz f := by cases f <;> simp [rsz]
theorem rszs_len : ∀ fs : List Fm, fs.length ≤ rszs fs
  | [] => by simp [rszs]
  | f :: r => by
    have := rsz_pos f
    have := rszs_len r
    simp only [rszs, List.length_cons]
    omega
theorem wf_rsz {d : Nat} {f : Fm} (h : Wf d f) : rsz f ≤ 4 ^ d := by
  have pos : ∀ d : Nat, 1 ≤ 4 ^ d := fun d => Nat.one_le_pow d 4 (by decide)
  induction h with
  | text d => exact pos d
  | number d => exact pos d
  | flag d => exact pos d
  | list _ _ => exact pos _
  | keyed _ _ _ => exact pos _
  | opt _ _ _ => exact pos _
  | @rcd d ns fs h1 h2 h3 h4 _ ih =>
    have h5 := rszs_le ih
    have h6 : fs.length * 4 ^ d ≤ 3 * 4 ^ d := Nat.mul_le_mul_right _ (by omega)
    have h7 := pos d
    simp only [rsz, Nat.pow_succ]
    omega
/-- one that may be read -/
structure GI (sc : Str → Option Fm) (x : List Str × Fm) : Prop where
  lk : lookF sc x.1 = some x.2
  ok : PathOk x.1
  nv : ∀ n, x.1.head? = some n → n ∉ notV
  wf : ∃ d, Wf d x.2 ∧ x.1.length + d ≤ 5
def dI (x : List Str × Fm) : PyData := .tuple [dN x.1, pd x.2]
theorem noL_dI (x : List Str × Fm) : noL (dI x) = true := by
  simp only [dI, noL, noLs, noL_pd, noL_strs]
  rfl
theorem noLs_dI : ∀ L : List (List Str × Fm), noLs (L.map dI) = true
  | [] => rfl
  | x :: r => by rw [List.map_cons, noLs, noL_dI, noLs_dI r]; rfl
theorem dpAll_app {K : PySem.W.Frag} {H : Hp} : ∀ {a b : List V} {x y : List PyData}, DpAll K H a x → DpAll K H b y → DpAll K H (a ++ b) (x ++ y)
  | _, _, _, _, .nil, h => h
  | _, _, _, _, .cons p q, h => .cons p (dpAll_app q h)
theorem items_of {K : PySem.W.Frag} {H : Hp} {α : Type} {g : α → PyData} {Good : Nat → α → Prop} : ∀ {acc : List V}, (∀ (i : Nat) v, acc[i]? = some v → ∃ x, Good i x ∧ Dp K H v (g x)) → ∃ L : List α, L.length = acc.length ∧ (∀ (i : Nat) x, L[i]? = some x → Good i x) ∧ DpAll K H acc (L.map g)
  | [], _ => ⟨[], rfl, (fun i x h => by simp at h), .nil⟩
  | v :: r, h => by
    obtain ⟨x, h1, h2⟩ := h 0 v rfl
    obtain ⟨L, h3, h4, h5⟩ := items_of (Good := fun i => Good (i + 1)) (acc := r) fun i u hu => h (i + 1) u (by simpa using hu)
    refine ⟨x :: L, by simp [h3], fun i y hy => ?_, .cons h2 h5⟩
    cases i with
    | zero =>
      simp at hy
      subst hy
      exact h1
    | succ i => exact h4 i y (by simpa using hy)
/-- a scope: words and their forms, frozen -/
structure ScAt (K : PySem.W.Frag) (H : Hp) (s : Addr) (ns : List Str) (fs : List Fm) : Prop where
  ex : ∃ o kvs, H s = some (.frz o (.dK kvs)) ∧ kvs.map (·.1) = ns.map Sum.inr ∧ kvs.length = fs.length ∧ ∀ (i : Nat) v f, (kvs.map (·.2))[i]? = some v → fs[i]? = some f → FmAt K H v f
theorem ScAt.im {K : PySem.W.Frag} {H H' : Hp} {s : Addr} {ns : List Str} {fs : List Fm} (h : ScAt K H s ns fs) (m : Im H H') : ScAt K H' s ns fs := by
  obtain ⟨o, kvs, h1, h2, h3, h4⟩ := h.ex
  exact ⟨o, kvs, m.frz _ _ _ h1, h2, h3, fun i v f a b => (h4 i v f a b).im m⟩
/-- the words and forms of the law's scopes -/
structure ScOk (ns : List Str) (fs : List Fm) : Prop where
  w : Wds ns 7
  len : fs.length = 7
  wf : ∀ f ∈ fs, Wf 4 f
theorem ScOk.size {ns : List Str} {fs : List Fm} (h : ScOk ns fs) : rszs fs ≤ 1792 := by
  have := rszs_le (n := 256) (fs := fs) fun f hf => wf_rsz (h.wf f hf)
  rw [h.len] at this
  omega
theorem rszs_perm {a b : List Fm} (p : a.Perm b) : rszs a = rszs b := by
  induction p with
  | nil => rfl
  | cons x _ ih => simp [rszs, ih]
  | swap x y l => simp [rszs]; omega
  | trans _ _ h1 h2 => exact h1.trans h2
section
variable {P : Program} {w : World} {K : PySem.W.Frag} {mg : Str → Option Value} {base : Heap} {k : Nat}
def spLReads (K : PySem.W.Frag) : Sp := fun vs H Q _ => ∃ (s : Addr) (ns : List Str) (fs : List Fm), vs = [.ref s] ∧ ScAt K H s ns fs ∧ ScOk ns fs ∧
  ∀ D H' xs (L : List (List Str × Fm)), Ex H H' → H D = none → H' D = some (.lst xs) → DpAll K H' xs (L.map dI) → (∀ x ∈ L, GI (fieldOf ns fs) x) → L.length ≤ 2000 → Q (.ref D) H'
abbrev st_law_reads : Stmt := (topS 44)
theorem sc_law_reads : FnScope ["_law_scope_here", "_law_found", "_law_at_here", "_law_names", "_law_form_here", "_law_word", "_law_inner"] ["_law_scope_here"] (defScope st_law_reads) := ⟨rfl, rfl, rfl, by decide +kernel, rfl, by decide +kernel, by decide +kernel⟩
theorem ok_lreads (T : Bi mg) (F : Df K mg "_law_reads" ["_law_scope_here"] st_law_reads) : Cl P w K mg base 1 "_law_reads" (spLReads K) := by
  refine F.ok (k := 0) sc_law_reads (fun vs H Q E h => ?_) (fun f cdv A outer s H vs Q E hr h => ?_)
  · obtain ⟨s, ns, fs, rfl, _⟩ := h
    rfl
  obtain ⟨s, ns, fs, rfl, hS, hO, q⟩ := h
  refine ⟨_, (pss_cons (ps_setLc (i := 1) (own := [("_law_word", 5)]) (g := gName 5) (tt := tYes) rfl sc_law_reads.nd rfl rfl (sw_true rfl rfl rfl (by decide +kernel)) (pi_list (pe_callB (call_sortedD rfl) rfl T.srt (by decide +kernel) (pa_cons (pv 0) pa_nil))) (blkOk_by (own := [("_law_word", 5)]) (N := ["_law_scope_here", "_law_found", "_law_at_here", "_law_names", "_law_form_here", "_law_word", "_law_inner"]) (sc := defScope st_law_reads) (by decide +kernel)) (fun _ _ _ _ _ => (pg_name (i := 5) sc_law_reads.nd rfl (Or.inl rfl))) (fun _ _ _ _ _ => pts_nil) (fun _ _ _ _ _ => (pe_tup (pa_cons (pe_tup (pa_cons (pv 5) pa_nil)) (pa_cons (pe_dget (hu_of hr) (pv 0) (pv 5) (fun _ _ => rfl)) pa_nil)))))
      (pss_cons (ps_set (i := 2) sc_law_reads.nd rfl (Or.inl rfl) pe_int)
      (pss_cons (ps_while PassesOwn.never (pt_cmpR op_lt (pv 2) (pe_callB call_len_seq rfl T.len PySem.boot_len (pa_cons (pv 1) pa_nil)) (nomark _)) (pss_cons (ps_asg (pe_ix ix_list (pv 1) (pv 2) (fun _ _ => rfl)) (pg_tup rfl (pgs_cons (pg_name (i := 3) sc_law_reads.nd rfl (Or.inr rfl)) (pgs_cons (pg_name (i := 4) sc_law_reads.nd rfl (Or.inl rfl)) pgs_nil))))
      (pss_cons (ps_if (pt_cmpR op_eq (pe_ix ix_tup (pv 4) pe_int (fun _ _ => rfl)) pe_str (nomark _)) (pss_one (ps_set (i := 1) sc_law_reads.nd rfl (Or.inl rfl) (pe_op op_cat (pv 1) (pe_lc (own := [("_law_word", 5), ("_law_inner", 6)]) (g := gTup K 2 (gCons (gName 5) (gCons (gName 6) gNil))) (te := tTup (tCons (tOp (rCatA K) _ _) (tCons _ tNil))) (tt := tYes) rfl sc_law_reads.nd (pi_tup (pe_ix ix_tup (pv 4) pe_int (fun _ _ => rfl))) (blkOk_by (own := [("_law_word", 5), ("_law_inner", 6)]) (N := ["_law_scope_here", "_law_found", "_law_at_here", "_law_names", "_law_form_here", "_law_word", "_law_inner"]) (sc := defScope st_law_reads) (by decide +kernel)) (fun _ _ _ _ _ => (pg_tup rfl (pgs_cons (pg_name (i := 5) sc_law_reads.nd rfl (Or.inl rfl)) (pgs_cons (pg_name (i := 6) sc_law_reads.nd rfl (Or.inl rfl)) pgs_nil)))) (fun _ _ _ _ _ => pts_nil) (fun _ _ _ _ _ => (pe_tup (pa_cons (pe_op op_catA (pv 3) (pe_tup (pa_cons (pv 5) pa_nil))) (pa_cons (pv 6) pa_nil)))))))) pss_nil)
      (pss_one (ps_set (i := 2) sc_law_reads.nd rfl (Or.inl rfl) (pe_op op_add (pv 2) pe_int))))))
      (pss_one (ps_ret (pv 1)))))), ?_⟩
  have hS0 := hS
  obtain ⟨o, kvs, hd, hk, hlen, hfm⟩ := hS.ex
  have hnl := hO.w.len
  have hkl : kvs.length = 7 := by rw [hlen, hO.len]
  refine ⟨_, rfl, s, kvs, ns, rfl, .inr ⟨o, hd⟩, hk, by omega, fun ys p hperm _ hp => ?_⟩
  have hY := hO.w.perm hperm
  have hyl := hY.len
  have e1 : Ex H (upd H p (.lst (ys.map V.str))) := Ex.new hp
  have sub : ∀ n ∈ ys, ∃ f v, fieldOf ns fs n = some f ∧ Wf 4 f ∧ valV kvs (Sum.inr n) = some v ∧ FmAt K H v f := by
    intro n hn
    obtain ⟨i, hi⟩ := List.mem_iff_getElem?.mp (hperm.mem_iff.mp hn)
    have hin := (List.getElem?_eq_some_iff.mp hi).1
    obtain ⟨f, hf⟩ : ∃ f, fs[i]? = some f := ⟨_, List.getElem?_eq_getElem (by rw [hO.len]; omega)⟩
    obtain ⟨v, hv⟩ : ∃ v, (kvs.map (·.2))[i]? = some v := ⟨_, List.getElem?_eq_getElem (by simp; omega)⟩
    exact ⟨f, v, at_field hO.w.nd hi hf, hO.wf f (List.mem_of_getElem? hf), by rw [valV_field hk]; exact at_field hO.w.nd hi hv, hfm i v f hv hf⟩
  refine ⟨p, rfl, ⟨_, SqL.of upd_same⟩, fun D hD => lc_gen (walk_list (a := p) (xs := ys.map V.str)) (fun H' => Ex (upd H p (.lst (ys.map V.str))) H') (fun i v H' => ∃ x : List Str × Fm, (GI (fieldOf ns fs) x ∧ Wf 4 x.2) ∧ Dp K H' v (dI x)) (Ex.new hD) (fun H' o e => e.mut hD) (fun H' e => SqL.of (e _ _ upd_same))
    (fun i v H' H'' h m => let ⟨x, a, b⟩ := h; ⟨x, a, Dp.im m (noL_dI x) b⟩) (szl (by simp; omega)) ?_ ?_⟩
  · rintro i x H' H'' C hi fr hacc ⟨rfl, hx⟩ kk
    obtain ⟨n, hn, rfl⟩ : ∃ n, ys[i]? = some n ∧ x = V.str n := by
      rw [List.getElem?_map] at hx
      cases e : ys[i]? with
      | none => rw [e] at hx; cases hx
      | some n => rw [e] at hx; exact ⟨n, rfl, (Option.some.inj hx).symm⟩
    have hny := List.mem_of_getElem? hn
    obtain ⟨f, v, hf1, hf2, hv, hfv⟩ := sub n hny
    refine ⟨rfl, _, rfl, by show 1 ≤ sizeLine; decide, fun a1 ha1 => ⟨_, rfl, _, rfl, s, v, rfl, .inl ⟨kvs, Sum.inr n, .inr ⟨o, (Ex.new ha1) _ _ (fr _ _ (e1 _ _ hd))⟩, rfl, hv.symm⟩, by show 2 ≤ sizeLine; decide, fun a2 ha2 => ?_⟩⟩
    have e12 : Ex _ _ := (Ex.new (o := .tup [.str n]) ha1).trans (Ex.new (o := .tup [.ref a1, v]) ha2)
    refine kk _ _ (fr.trans e12) (Im.ex e12) (ex_at e12 hacc) ⟨([n], f), ⟨⟨?_, ⟨by simp, fun m hm => ?_⟩, fun m hm => ?_, 4, hf2, by simp⟩, hf2⟩, ?_⟩
    · simp only [lookF]
      rw [hf1]
      rfl
    · rw [List.mem_singleton.mp hm]
      exact hY.ok n hny
    · have : n = m := by simpa using hm
      rw [← this]
      exact hY.nv n hny
    · have d1 : Dp K (upd _ a1 (.tup [.str n])) (.ref a1) (dN [n]) := Dp.new ha1 (.cons (.str n) .nil) rfl
      exact Dp.new ha2 (.cons d1 (.cons (hfv.im (Im.ex ((e1.trans fr).trans (Ex.new ha1)))) .nil)) (by simp only [noLs, noL, noL_pd, noL_strs]; rfl)
  · intro H1 acc fr hacc hal hall
    obtain ⟨L, hLl, hLg, hLd⟩ := items_of (Good := fun _ x => GI (fieldOf ns fs) x ∧ Wf 4 x.2) hall
    have hfrD : H D = none := by
      cases e : H D with
      | none => rfl
      | some o' => rw [e1 _ _ e] at hD; cases hD
    have hLs : rszs (L.map (·.2)) ≤ 1792 := by
      have h1 := rszs_le (n := 256) (fs := L.map (·.2)) fun f hf => by
        obtain ⟨x, hx, rfl⟩ := List.mem_map.mp hf
        obtain ⟨i, hi⟩ := List.mem_iff_getElem?.mp hx
        exact wf_rsz (hLg i x hi).2
      rw [List.length_map] at h1
      have : L.length = 7 := by rw [hLl, hal, List.length_map, hyl]
      rw [this] at h1
      omega
    refine ⟨fun m σ H' => ∃ (D : Addr) (nm1 nm2 : Option V) (i : Nat) (xs : List V) (L : List (List Str × Fm)), σ = [some (.ref s), some (.ref D), some (.int (i : Int)), nm1, nm2, none, none] ∧ Ex H H' ∧ H D = none ∧ H' D = some (.lst xs) ∧ DpAll K H' xs (L.map dI) ∧ (∀ x ∈ L, GI (fieldOf ns fs) x) ∧
      i ≤ L.length ∧ i + rszs ((L.map (·.2)).drop i) ≤ 1792 ∧ m = rszs ((L.map (·.2)).drop i), ⟨_, D, none, none, 0, acc, L, rfl, e1.trans fr, hfrD, hacc, hLd, fun x hx => by
        obtain ⟨i, hi⟩ := List.mem_iff_getElem?.mp hx
        exact (hLg i x hi).1, Nat.zero_le _, by simpa using hLs, rfl⟩, ?_⟩
    clear hLs hLd hLg hLl L hall hal hacc fr hfrD hD D acc
    rintro m σ H' ⟨D, nm1, nm2, i, xs, L, rfl, ex, hfrD, hD, hLd, hLg, hi, hsz, rfl⟩
    have hxl : xs.length = L.length := by rw [DpAll.length hLd, List.length_map]
    have hL2 : L.length ≤ 1792 := by
      have := rszs_len ((L.map (·.2)).drop i)
      rw [List.length_drop, List.length_map] at this
      omega
    refine ⟨_, rfl, _, rfl, D, xs, rfl, .inl (SqL.of hD), _, _, rfl, rfl, _, rfl, ?_⟩
    refine ite2 (fun hlt => ?_) (fun hge => ?_)
    · have hil : i < L.length := by
        have := of_decide_eq_true hlt
        omega
      obtain ⟨⟨pth, f⟩, hpf⟩ : ∃ x, L[i]? = some x := ⟨_, List.getElem?_eq_getElem hil⟩
      have hgi := hLg _ (List.mem_of_getElem? hpf)
      obtain ⟨v, hv, hdv⟩ := DpAll.get hLd (i := i) (d := dI (pth, f)) (by rw [List.getElem?_map, hpf]; rfl)
      unfold dI at hdv
      obtain ⟨c, zs, rfl, hTc, hAc⟩ := Dp.tupInv hdv
      cases hAc with
      | cons c1 hAc =>
      cases hAc with
      | cons c2 hAc =>
      cases hAc
      rename_i vp vf
      obtain ⟨cf, zf, rfl, hTf, hxf⟩ := FmAt.tagged c2
      have hdrop : (L.map (·.2)).drop i = f :: (L.map (·.2)).drop (i + 1) := by
        rw [List.drop_eq_getElem_cons (by simpa using hil)]
        congr 1
        rw [List.getElem_map]
        have := (List.getElem?_eq_some_iff.mp hpf).2
        rw [this]
      rw [hdrop] at hsz ⊢
      simp only [rszs] at hsz ⊢
      refine ⟨fun σ' H' => ∃ m', m' < rsz f + rszs ((L.map (·.2)).drop (i + 1)) ∧ ∃ (D : Addr) (nm1 nm2 : Option V) (i : Nat) (xs : List V) (L : List (List Str × Fm)), σ' = [some (.ref s), some (.ref D), some (.int (i : Int)), nm1, nm2, none, none] ∧ Ex H H' ∧ H D = none ∧ H' D = some (.lst xs) ∧ DpAll K H' xs (L.map dI) ∧ (∀ x ∈ L, GI (fieldOf ns fs) x) ∧
        i ≤ L.length ∧ i + rszs ((L.map (·.2)).drop i) ≤ 1792 ∧ m' = rszs ((L.map (·.2)).drop i), fun σ' H' h => h, ?_⟩
      refine ⟨_, rfl, _, rfl, D, xs, _, .ref c, rfl, rfl, SqL.of hD, at_of rfl hv, c, _, rfl, hTc, rfl, _, _, rfl, _, _, rfl, rfl, ?_⟩
      by_cases hrc : tag f = "record"
      · refine st_ifb (ans_tag (b := true) rfl hTf hxf (decide_eq_true hrc)) ?_
        refine iteT ?_
        cases f with
        | rcd ns2 fs2 =>
          have hww : ∃ d', fs2.length = ns2.length ∧ ns2.length ≤ 3 ∧ (∀ n ∈ ns2, NmOk n) ∧ ns2.Nodup ∧ (∀ g ∈ fs2, Wf d' g) ∧ pth.length + (d' + 1) ≤ 5 := by
            obtain ⟨d, h1, h2⟩ := hgi.wf
            cases h1 with
            | @rcd d' _ _ a1 a2 a3 a4 a5 => exact ⟨d', a1, a2, a3, a4, a5, h2⟩
          obtain ⟨d', w1, w2, w3, w4, w5, w6⟩ := hww
          simp only [pd] at c2
          obtain ⟨cf', zf', e, hTf', hAf⟩ := Dp.tupInv c2
          cases e
          cases hAf with
          | cons f1 hAf =>
          cases hAf with
          | cons f2 hAf =>
          cases hAf
          cases f1
          obtain ⟨b2, ys2, rfl, hT2, hA2⟩ := Dp.tupInv f2
          have hyl2 : ys2.length = ns2.length := by rw [DpAll.length hA2, pds_len w1.symm]
          obtain ⟨bp, us, rfl, hTb, hAb⟩ := Dp.tupInv c1
          have hus := DpAll.strsInv hAb
          subst hus
          refine ⟨_, rfl, val_tag (j := 1) rfl hTf' rfl _ ⟨b2, rfl, ⟨ys2, hT2⟩, fun D2 hD2 => lc_gen (walk_tup (a := b2) (xs := ys2)) (fun H2 => Ex H' H2) (fun i v H2 => ∃ x : List Str × Fm, (GI (fieldOf ns fs) x ∧ fs2[i]? = some x.2) ∧ Dp K H2 v (dI x)) (Ex.new hD2) (fun H' o e => e.mut hD2) (fun H' e => (Im.ex e).sqT hT2)
            (fun i v H' H'' h m => let ⟨x, a, b⟩ := h; ⟨x, a, Dp.im m (noL_dI x) b⟩) (szl (by omega)) ?_ ?_⟩⟩
          · rintro j x H2 H3 C hj fr hacc ⟨rfl, hx⟩ kk
            obtain ⟨n, hn⟩ : ∃ n, ns2[j]? = some n := ⟨_, List.getElem?_eq_getElem (by omega)⟩
            obtain ⟨g, hg⟩ : ∃ g, fs2[j]? = some g := ⟨_, List.getElem?_eq_getElem (by omega)⟩
            obtain ⟨dd, hd1, hd2⟩ := DpAll.getV hA2 hx
            rw [pds_get hn hg] at hd1
            cases hd1
            obtain ⟨c3, zs3, rfl, hTc3, hAc3⟩ := Dp.tupInv hd2
            cases hAc3 with
            | cons g1 hAc3 =>
            cases hAc3 with
            | cons g2 hAc3 =>
            cases hAc3
            cases g1
            rename_i vg
            have im := Im.ex fr
            refine ⟨c3, _, rfl, im.sqT hTc3, rfl, _, _, rfl, _, _, rfl, rfl, rfl, _, rfl, _, rfl, by show 1 ≤ sizeLine; decide, fun a1 ha1 => ?_⟩
            have E1 := Ex.new (o := .tup [.str n]) ha1
            refine ⟨bp, a1, pth.map V.str, [.str n], rfl, rfl, (im.trans (Im.ex E1)).sqT hTb, SqT.of upd_same, sz (by rw [List.length_map]; simp; omega), (fun z => ?_), (fun _ z => by cases z), fun _ _ p2 hp2 => ?_⟩
            · have : pth = [] := by simpa using z
              exact absurd this hgi.ok.ne
            refine ⟨_, rfl, by show 2 ≤ sizeLine; decide, fun a3 ha3 => ?_⟩
            have E3 := E1.trans ((Ex.new (o := .tup (pth.map V.str ++ [.str n])) hp2).trans (Ex.new (o := .tup [.ref p2, vg]) ha3))
            have hne2 : n ∈ ns2 := List.mem_of_getElem? hn
            refine kk _ _ (fr.trans E3) (Im.ex E3) (ex_at E3 hacc) ⟨(pth ++ [n], g), ⟨⟨lookF_snoc hgi.lk (at_field w4 hn hg), ⟨by simp, fun m hm => ?_⟩, fun m hm => ?_, d', w5 g (List.mem_of_getElem? hg), by simp; omega⟩, hg⟩, ?_⟩
            · rcases List.mem_append.mp hm with h | h
              · exact hgi.ok.ok m h
              · rw [List.mem_singleton.mp h]; exact w3 n hne2
            · refine hgi.nv m ?_
              have h0 := hgi.ok.ne
              simp only at h0 hm ⊢
              cases pth with
              | nil => exact absurd rfl h0
              | cons z r => simpa using hm
            · have hds : ∀ H9 : Hp, DpAll K H9 (pth.map V.str ++ [.str n]) ((pth ++ [n]).map PyData.str) := fun H9 => by
                rw [show pth.map V.str ++ [V.str n] = (pth ++ [n]).map V.str by simp]
                exact DpAll.strs _
              have d2 := Dp.new hp2 (hds _) (noL_strs _)
              exact Dp.new ha3 (.cons d2 (.cons (Dp.im (im.trans ((Im.ex E1).trans (Im.new hp2))) (noL_pd g) g2) .nil)) (by simp only [noLs, noL, noL_pd, noL_strs]; rfl)
          · intro H2 acc fr hacc hal hall
            obtain ⟨L2, hLl, hLg2, hLd2⟩ := items_of (Good := fun i x => GI (fieldOf ns fs) x ∧ fs2[i]? = some x.2) hall
            have hL2f : L2.map (·.2) = fs2 := by
              apply List.ext_getElem?
              intro j
              rw [List.getElem?_map]
              cases e : L2[j]? with
              | some x => rw [(hLg2 j x e).2]; rfl
              | none =>
                have : L2.length ≤ j := by simpa using e
                rw [List.getElem?_eq_none (by omega)]
                rfl
            refine ⟨D, D2, xs, acc, rfl, rfl, fr _ _ hD, hacc, sz (by omega), fun p3 hp3 => ?_⟩
            have E4 := Ex.new (o := .lst (xs ++ acc)) hp3
            have hdr : ((L ++ L2).map (·.2)).drop (i + 1) = (L.map (·.2)).drop (i + 1) ++ fs2 := by
              rw [List.map_append, List.drop_append_of_le_length (by rw [List.length_map]; omega), hL2f]
            have hfp3 : H p3 = none := by
              cases e : H p3 with
              | none => rfl
              | some o' => rw [fr _ _ (ex _ _ e)] at hp3; cases hp3
            simp only [rsz] at hsz ⊢
            refine ⟨_, rfl, _, _, rfl, rfl, _, ?_, p3, _, _, i + 1, xs ++ acc, L ++ L2, rfl, (ex.trans fr).trans E4, hfp3, upd_same, ?_, fun x hx => ?_, by rw [List.length_append]; omega, ?_, rfl⟩
            · rw [hdr, rszs_app]
              omega
            · rw [List.map_append]
              exact dpAll_app (DpAll.im (Im.ex (fr.trans E4)) (noLs_dI L) hLd) (DpAll.im (Im.ex E4) (noLs_dI L2) hLd2)
            · rcases List.mem_append.mp hx with h | h
              · exact hLg x h
              · obtain ⟨j, hj⟩ := List.mem_iff_getElem?.mp h
                exact (hLg2 j x hj).1
            · rw [hdr, rszs_app]
              omega
        | _ => exact absurd hrc (by simp only [tag]; decide +kernel)
      · refine st_ifb (ans_tag (b := false) rfl hTf hxf (decide_eq_false hrc)) ?_
        refine iteF ?_
        have := rsz_pos f
        exact ⟨_, rfl, _, _, rfl, rfl, _, by omega, D, _, _, i + 1, xs, L, rfl, ex, hfrD, hD, hLd, hLg, by omega, by omega, rfl⟩
    · refine ⟨_, rfl, q D H' xs L ex hfrD hD hLd hLg (by omega)⟩
end
end RT
/-! forms compared; typed expressions that may be written and read -/
namespace RT
open PySem PySem.Spec PyProof.Rows L2 Evl
theorem strOk_nm {n : Str} (h : NmOk n) : PyData.strOk n = true := by
  unfold PyData.strOk
  rw [← Array.all_toList, List.all_eq_true]
  intro c hc
  have := h.low c hc
  simp [low] at this ⊢
  omega
theorem lay_pds {m : Nat} : ∀ {ns : List Str} {fs : List Fm}, (∀ n ∈ ns, NmOk n) → (∀ f ∈ fs, PyData.canLay0 (pd f) = true ∧ PyData.depth (pd f) ≤ m) → PyData.canLayAll0 (pds ns fs) = true ∧ PyData.depthAll (pds ns fs) ≤ m + 1
  | [], _, _, _ => by
    simp only [pds, PyData.canLayAll0, PyData.depthAll]
    exact ⟨trivial, Nat.zero_le _⟩
  | _ :: _, [], _, _ => by
    simp only [pds, PyData.canLayAll0, PyData.depthAll]
    exact ⟨trivial, Nat.zero_le _⟩
  | n :: ns, f :: fs, h1, h2 => by
    obtain ⟨a, b⟩ := lay_pds (m := m) (ns := ns) (fs := fs) (fun x hx => h1 x (by simp [hx])) fun g hg => h2 g (by simp [hg])
    obtain ⟨c, d⟩ := h2 f (by simp)
    have e := strOk_nm (h1 n (by simp))
    refine ⟨?_, ?_⟩
    · simp only [pds, PyData.canLayAll0, PyData.canLay0, a, c, e, Bool.and_self]
    · simp only [pds, PyData.depthAll, PyData.depth]
      omega
theorem wf_lay {d : Nat} {f : Fm} (h : Wf d f) : PyData.canLay0 (pd f) = true ∧ PyData.depth (pd f) ≤ 5 * d + (if isOpt f = true then 2 else 1) := by
  induction h with
  | text d => exact ⟨by simp only [pd]; decide +kernel, by simp [pd, PyData.depth, PyData.depthAll, isOpt]⟩
  | number d => exact ⟨by simp only [pd]; decide +kernel, by simp [pd, PyData.depth, PyData.depthAll, isOpt]⟩
  | flag d => exact ⟨by simp only [pd]; decide +kernel, by simp [pd, PyData.depth, PyData.depthAll, isOpt]⟩
  | @list d f _ ih =>
    obtain ⟨a, b⟩ := ih
    have e : PyData.strOk ("list" : Str) = true := by decide +kernel
    refine ⟨by simp only [pd, PyData.canLay0, PyData.canLayAll0, a, e, Bool.and_self], ?_⟩
    simp only [pd, PyData.depth, PyData.depthAll]
    rw [show isOpt (.list f) = false from rfl]
    split at b <;> simp <;> omega
  | @keyed d k ns f0 fs hr _ ih =>
    obtain ⟨a, b⟩ := ih
    have e : PyData.strOk ("keyed" : Str) = true := by decide +kernel
    have e2 : PyData.strOk k = true := by
      cases hr with
      | rcd _ _ h3 _ _ => exact strOk_nm (h3 k (by simp))
    rw [pd]
    refine ⟨by simp only [PyData.canLay0, PyData.canLayAll0, a, e, e2, Bool.and_self], ?_⟩
    simp only [PyData.depth, PyData.depthAll]
    rw [show isOpt (.rcd (k :: ns) (f0 :: fs)) = false from rfl] at b
    rw [show isOpt (.keyed (.rcd (k :: ns) (f0 :: fs)) k) = false from rfl]
    simp at b ⊢
    omega
  | @opt d f _ h0 ih =>
    obtain ⟨a, b⟩ := ih
    have e : PyData.strOk ("optional" : Str) = true := by decide +kernel
    refine ⟨by simp only [pd, PyData.canLay0, PyData.canLayAll0, a, e, Bool.and_self], ?_⟩
    simp only [pd, PyData.depth, PyData.depthAll]
    rw [h0] at b
    rw [show isOpt (.opt f) = true from rfl]
    simp at b ⊢
    omega
  | @rcd d ns fs h1 h2 h3 h4 _ ih =>
    obtain ⟨a, b⟩ := lay_pds (m := 5 * d + 2) h3 fun f hf => ⟨(ih f hf).1, by have := (ih f hf).2; split at this <;> omega⟩
    have e : PyData.strOk ("record" : Str) = true := by decide +kernel
    refine ⟨by simp only [pd, PyData.canLay0, PyData.canLayAll0, a, e, Bool.and_self], ?_⟩
    simp only [pd, PyData.depth, PyData.depthAll]
    rw [show isOpt (.rcd ns fs) = false from rfl]
    simp
    omega
theorem shaped_pd {d : Nat} {f : Fm} (h : Wf d f) (hd : d ≤ 5) : SeqAt.shaped (pd f) = true := by
  obtain ⟨a, b⟩ := wf_lay h
  unfold SeqAt.shaped
  rw [a, Bool.true_and]
  refine decide_eq_true ?_
  split at b <;> omega
def Kd.str : Kd → Str
  | .text => "text"
  | .number => "number"
  | .flag => "flag"
theorem eq_kind {k : Kd} : ∀ {f : Fm}, PyData.eqv (pd f) (.tuple [.str k.str]) = true → f = k.fm
  | .text, h => by cases k <;> first | rfl | (simp only [pd] at h; exact absurd h (by decide +kernel))
  | .number, h => by cases k <;> first | rfl | (simp only [pd] at h; exact absurd h (by decide +kernel))
  | .flag, h => by cases k <;> first | rfl | (simp only [pd] at h; exact absurd h (by decide +kernel))
  | .list _, h => by simp [pd, PyData.eqv, PyData.eqvAll] at h
  | .keyed _ _, h => by rw [pd] at h; simp [PyData.eqv, PyData.eqvAll] at h
  | .opt _, h => by simp [pd, PyData.eqv, PyData.eqvAll] at h
  | .rcd _ _, h => by simp [pd, PyData.eqv, PyData.eqvAll] at h
theorem str_ne {a b : Str} (h : decide (a = b) = false) : (a == b) = false := by
  have := of_decide_eq_false h
  simpa using this
theorem eq_opt {k : Kd} : ∀ {f : Fm}, PyData.eqv (pd f) (.tuple [.str "optional", .tuple [.str k.str]]) = true → f = .opt k.fm
  | .text, h => by simp [pd, PyData.eqv, PyData.eqvAll] at h
  | .number, h => by simp [pd, PyData.eqv, PyData.eqvAll] at h
  | .flag, h => by simp [pd, PyData.eqv, PyData.eqvAll] at h
  | .list _, h => by
    simp only [pd, PyData.eqv, PyData.eqvAll, str_ne (show decide (("list" : Str) = "optional") = false by decide +kernel), Bool.false_and] at h
    cases h
  | .keyed _ _, h => by rw [pd] at h; simp [PyData.eqv, PyData.eqvAll] at h
  | .opt g, h => by
    simp only [pd] at h
    have h2 : PyData.eqv (pd g) (.tuple [.str k.str]) = true := by
      rw [PyData.eqv, PyData.eqvAll, PyData.eqvAll, PyData.eqvAll] at h
      simp only [Bool.and_eq_true] at h
      exact h.2.1
    rw [eq_kind h2]
  | .rcd _ _, h => by
    simp only [pd, PyData.eqv, PyData.eqvAll, str_ne (show decide (("record" : Str) = "optional") = false by decide +kernel), Bool.false_and] at h
    cases h
theorem shaped_k (k : Kd) : SeqAt.shaped (.tuple [.str k.str]) = true := by cases k <;> decide +kernel
theorem shaped_ok (k : Kd) : SeqAt.shaped (.tuple [.str "optional", .tuple [.str k.str]]) = true := by cases k <;> decide +kernel
/-- a path that may be written -/
structure PathW (ns : List Str) : Prop where
  ok : PathOk ns
  nv : ∀ n, ns.head? = some n → n ∉ notV
  len : ns.length ≤ 5
/-- typed, of this depth at most, with paths that may be written -/
structure Tok (sc : Str → Option Fm) (k : Kd) (d : Nat) (t : Tree) : Prop where
  wt : WT sc k t
  dp : dep t ≤ d
  pw : ∀ ns ∈ rds t, PathW ns
theorem pw_rdss {ts : List Tree} (h : ∀ t ∈ ts, ∀ ns ∈ rds t, PathW ns) : ∀ ns ∈ rdss ts, PathW ns := fun ns hn => by
  obtain ⟨t, ht, h2⟩ := mem_rdss hn
  exact h t ht ns h2
theorem GI.pw {sc : Str → Option Fm} {x : List Str × Fm} (h : GI sc x) : PathW x.1 := ⟨h.ok, h.nv, by obtain ⟨d, _, h2⟩ := h.wf; omega⟩
theorem Tok.pr {sc : Str → Option Fm} {k : Kd} {t : Tree} (h : WT sc k t) : (∀ ns ∈ rds t, PathW ns) → Pr t := by
  have one : ∀ {ns : List Str}, PathW ns → Pr (.get ns) := by
    intro ns h
    cases ns with
    | nil => exact absurd rfl h.ok.ne
    | cons n r =>
      refine .get (h.ok.ok n (by simp)) (fun x hx => h.ok.ok x (by simp [hx])) ?_ (h.nv n rfl)
      have := h.len
      simp at this
      omega
  induction h with
  | get _ => exact fun h => one (h _ (by simp [rds]))
  | text h => exact fun _ => .text h
  | number h => exact fun _ => .number (numOk h)
  | flag b => exact fun _ => .flag b
  | @orElse k ns y _ _ ih =>
    intro h
    refine .call (by simp) (by simp) (.inl rfl) fun t ht => ?_
    rcases List.mem_cons.mp ht with e | e
    · rw [e]; exact one (h ns (by simp [rds, rdss]))
    · rw [List.mem_singleton.mp e]
      exact ih fun m hm => h m (by simp [rds, rdss, hm])
  | @size ns _ _ _ =>
    intro h
    refine .call (by simp) (by simp) (.inl rfl) fun t ht => ?_
    rw [List.mem_singleton.mp ht]
    exact one (h ns (by simp [rds, rdss]))
  | @sum ts h0 hl _ ih =>
    intro h
    refine .call h0 (by omega) ?_ fun t ht => ih t ht fun m hm => h m (by simp only [rds]; exact rdss_mem ht hm)
    cases ts with
    | nil => exact absurd rfl h0
    | cons a r =>
      cases r with
      | nil => exact .inl rfl
      | cons b r => exact .inr ⟨by simp [Wd.least], rfl⟩
  | @joined ts h0 hl _ ih =>
    intro h
    refine .call h0 (by omega) ?_ fun t ht => ih t ht fun m hm => h m (by simp only [rds]; exact rdss_mem ht hm)
    cases ts with
    | nil => exact absurd rfl h0
    | cons a r =>
      cases r with
      | nil => exact .inl rfl
      | cons b r => exact .inr ⟨by simp [Wd.least], rfl⟩
  | @has ns _ _ =>
    intro h
    refine .call (by simp) (by simp) (.inl rfl) fun t ht => ?_
    rw [List.mem_singleton.mp ht]
    exact one (h ns (by simp [rds, rdss]))
  | @not x _ ih =>
    intro h
    refine .call (by simp) (by simp) (.inl rfl) fun t ht => ?_
    rw [List.mem_singleton.mp ht]
    exact ih fun m hm => h m (by simp [rds, rdss, hm])
  | @equal k x y _ _ ih1 ih2 =>
    intro h
    refine .call (by simp) (by simp) (.inl rfl) fun t ht => ?_
    rcases List.mem_cons.mp ht with e | e
    · rw [e]; exact ih1 fun m hm => h m (by simp [rds, rdss, hm])
    · rw [List.mem_singleton.mp e]; exact ih2 fun m hm => h m (by simp [rds, rdss, hm])
  | @less x y _ _ ih1 ih2 =>
    intro h
    refine .call (by simp) (by simp) (.inl rfl) fun t ht => ?_
    rcases List.mem_cons.mp ht with e | e
    · rw [e]; exact ih1 fun m hm => h m (by simp [rds, rdss, hm])
    · rw [List.mem_singleton.mp e]; exact ih2 fun m hm => h m (by simp [rds, rdss, hm])
  | @both x y _ _ ih1 ih2 =>
    intro h
    refine .call (by simp) (by simp) (.inl rfl) fun t ht => ?_
    rcases List.mem_cons.mp ht with e | e
    · rw [e]; exact ih1 fun m hm => h m (by simp [rds, rdss, hm])
    · rw [List.mem_singleton.mp e]; exact ih2 fun m hm => h m (by simp [rds, rdss, hm])
  | @either x y _ _ ih1 ih2 =>
    intro h
    refine .call (by simp) (by simp) (.inl rfl) fun t ht => ?_
    rcases List.mem_cons.mp ht with e | e
    · rw [e]; exact ih1 fun m hm => h m (by simp [rds, rdss, hm])
    · rw [List.mem_singleton.mp e]; exact ih2 fun m hm => h m (by simp [rds, rdss, hm])
/-! ### sizes -/
def Sz (t : Tree) : Prop := (rds t).length ≤ 3 ^ (dep t - 1) ∧ (cod t).length ≤ 80 * 4 ^ (dep t - 1)
theorem rdss_len {n : Nat} : ∀ {ts : List Tree}, (∀ t ∈ ts, (rds t).length ≤ n) → (rdss ts).length ≤ ts.length * n
  | [], _ => by simp [rdss]
  | t :: r, h => by
    have h1 := h t (by simp)
    have h2 := rdss_len (ts := r) fun u hu => h u (by simp [hu])
    simp only [rdss, List.length_append, List.length_cons, Nat.succ_mul]
    omega
theorem argT_len {n : Nat} : ∀ {ts : List Tree}, (∀ t ∈ ts, (cod t).length ≤ n) → (argT ts).length ≤ ts.length * (n + 2)
  | [], _ => by simp [argT]
  | t :: r, h => by
    have h1 := h t (by simp)
    have h2 := argT_len (ts := r) fun u hu => h u (by simp [hu])
    simp only [argT, List.length_append, List.length_cons, Nat.succ_mul]
    omega
theorem argC_len {n : Nat} {ts : List Tree} (h : ∀ t ∈ ts, (cod t).length ≤ n) : (argC ts).length ≤ ts.length * (n + 2) := by
  cases ts with
  | nil => simp [argC]
  | cons t r =>
    have h1 := h t (by simp)
    have h2 := argT_len (ts := r) fun u hu => h u (by simp [hu])
    simp only [argC, List.length_append, List.length_cons, Nat.succ_mul]
    omega
theorem sz_call {w : Wd} {ts : List Tree} (h0 : ts ≠ []) (hl : ts.length ≤ 3) (h : ∀ t ∈ ts, Sz t) : Sz (.call w ts) := by
  obtain ⟨m, hm⟩ : ∃ m, deps ts = m + 1 := by
    cases ts with
    | nil => exact absurd rfl h0
    | cons t r =>
      have := dep_pos t
      refine ⟨deps (t :: r) - 1, ?_⟩
      simp only [deps]
      omega
  have hb : ∀ t ∈ ts, dep t - 1 ≤ m := fun t ht => by
    have := dep_le_deps ht
    omega
  have h1 : (rdss ts).length ≤ 3 * 3 ^ m := Nat.le_trans (rdss_len (n := 3 ^ m) fun t ht => Nat.le_trans (h t ht).1 (Nat.pow_le_pow_right (by decide) (hb t ht))) (Nat.mul_le_mul_right _ hl)
  have h2 : (argC ts).length ≤ 3 * (80 * 4 ^ m + 2) := Nat.le_trans (argC_len (n := 80 * 4 ^ m) fun t ht => Nat.le_trans (h t ht).2 (Nat.mul_le_mul_left _ (Nat.pow_le_pow_right (by decide) (hb t ht)))) (Nat.mul_le_mul_right _ hl)
  have h3 : 1 ≤ 4 ^ m := Nat.one_le_pow m 4 (by decide)
  have h4 := (word_len w).2
  refine ⟨?_, ?_⟩
  · simp only [rds, dep, Nat.add_sub_cancel, hm, Nat.pow_succ]
    omega
  · simp only [cod, dep, Nat.add_sub_cancel, hm, Nat.pow_succ, List.length_append, List.length_cons, List.length_nil]
    omega
theorem tailD_len : ∀ {r : List Str}, (∀ x ∈ r, NmOk x) → (tailD r).length ≤ r.length * 13
  | [], _ => by simp [tailD]
  | x :: r, h => by
    have h1 := (h x (by simp)).len
    have h2 := tailD_len (r := r) fun y hy => h y (by simp [hy])
    unfold tailD at h2 ⊢
    simp only [List.map_cons, List.flatten_cons, List.length_append, List.length_cons, Nat.succ_mul]
    omega
theorem sz_get {ns : List Str} (h : PathW ns) : Sz (.get ns) := by
  refine ⟨by simp [rds, dep], ?_⟩
  cases ns with
  | nil => exact absurd rfl h.ok.ne
  | cons n r =>
    have h1 := (h.ok.ok n (by simp)).len
    have h2 := tailD_len (r := r) fun y hy => h.ok.ok y (by simp [hy])
    have h3 := h.len
    simp only [List.length_cons] at h3
    have h4 : r.length * 13 ≤ 4 * 13 := Nat.mul_le_mul_right _ (by omega)
    simp only [cod, getCodes, dep, List.length_append]
    omega
theorem Tok.sz {sc : Str → Option Fm} {k : Kd} {t : Tree} (h : WT sc k t) : (∀ ns ∈ rds t, PathW ns) → Sz t := by
  induction h with
  | get _ => exact fun h => sz_get (h _ (by simp [rds]))
  | @text x h =>
    intro _
    refine ⟨by simp [rds], ?_⟩
    have := h.1
    have e : (tl x).length = x.length := rfl
    simp only [cod, dep, List.length_cons, List.length_append, List.length_nil]
    omega
  | @number n h =>
    intro _
    refine ⟨by simp [rds], ?_⟩
    simp only [cod, dep]
    rcases h with rfl | rfl | rfl | rfl <;> decide +kernel
  | flag b =>
    intro _
    refine ⟨by simp [rds], ?_⟩
    simp only [cod, dep]
    cases b <;> decide +kernel
  | @orElse k ns y _ _ ih =>
    intro h
    refine sz_call (by simp) (by simp) fun t ht => ?_
    rcases List.mem_cons.mp ht with e | e
    · rw [e]; exact sz_get (h ns (by simp [rds, rdss]))
    · rw [List.mem_singleton.mp e]
      exact ih fun m hm => h m (by simp [rds, rdss, hm])
  | @size ns _ _ _ =>
    intro h
    refine sz_call (by simp) (by simp) fun t ht => ?_
    rw [List.mem_singleton.mp ht]
    exact sz_get (h ns (by simp [rds, rdss]))
  | @sum ts h0 hl _ ih => exact fun h => sz_call h0 hl fun t ht => ih t ht fun m hm => h m (by simp only [rds]; exact rdss_mem ht hm)
  | @joined ts h0 hl _ ih => exact fun h => sz_call h0 hl fun t ht => ih t ht fun m hm => h m (by simp only [rds]; exact rdss_mem ht hm)
  | @has ns _ _ =>
    intro h
    refine sz_call (by simp) (by simp) fun t ht => ?_
    rw [List.mem_singleton.mp ht]
    exact sz_get (h ns (by simp [rds, rdss]))
  | @not x _ ih =>
    intro h
    refine sz_call (by simp) (by simp) fun t ht => ?_
    rw [List.mem_singleton.mp ht]
    exact ih fun m hm => h m (by simp [rds, rdss, hm])
  | @equal k x y _ _ ih1 ih2 =>
    intro h
    refine sz_call (by simp) (by simp) fun t ht => ?_
    rcases List.mem_cons.mp ht with e | e
    · rw [e]; exact ih1 fun m hm => h m (by simp [rds, rdss, hm])
    · rw [List.mem_singleton.mp e]; exact ih2 fun m hm => h m (by simp [rds, rdss, hm])
  | @less x y _ _ ih1 ih2 =>
    intro h
    refine sz_call (by simp) (by simp) fun t ht => ?_
    rcases List.mem_cons.mp ht with e | e
    · rw [e]; exact ih1 fun m hm => h m (by simp [rds, rdss, hm])
    · rw [List.mem_singleton.mp e]; exact ih2 fun m hm => h m (by simp [rds, rdss, hm])
  | @both x y _ _ ih1 ih2 =>
    intro h
    refine sz_call (by simp) (by simp) fun t ht => ?_
    rcases List.mem_cons.mp ht with e | e
    · rw [e]; exact ih1 fun m hm => h m (by simp [rds, rdss, hm])
    · rw [List.mem_singleton.mp e]; exact ih2 fun m hm => h m (by simp [rds, rdss, hm])
  | @either x y _ _ ih1 ih2 =>
    intro h
    refine sz_call (by simp) (by simp) fun t ht => ?_
    rcases List.mem_cons.mp ht with e | e
    · rw [e]; exact ih1 fun m hm => h m (by simp [rds, rdss, hm])
    · rw [List.mem_singleton.mp e]; exact ih2 fun m hm => h m (by simp [rds, rdss, hm])
end RT
/-! the law's own expressions: pieces -/
namespace RT
open PySem PySem.Spec PyProof.Rows L2 Evl
theorem if_cps {σ : L2.St} {H : Hp} {D : Ends} {c : TT} {t1 t2 : TS} (G : Bool → Hp → Prop) (hc : ∀ C : Bool → Hp → Prop, (∀ b H1, G b H1 → C b H1) → c σ H C) (h1 : ∀ H1, G true H1 → t1 D σ H1) (h2 : ∀ H1, G false H1 → t2 D σ H1) : tIfS c t1 t2 D σ H :=
  hc _ fun b H1 g => by
    cases b with
    | true => exact h1 H1 g
    | false => exact h2 H1 g
theorem seq_asg {σ : L2.St} {H : Hp} {D : Ends} {te : TE} {g : TG} {u : TS} (h : te σ H fun x H1 => g x σ H1 (u D)) : tSeq (tAsg te g) u D σ H := h
theorem name_seq {σ : L2.St} {H : Hp} {D : Ends} {te : TE} {g : TG} {u : TS} {i : Nat} {v : V} (h : te (σ.set i (some v)) H fun x H1 => g x (σ.set i (some v)) H1 (u D)) : gName i v σ H (tSeq (tAsg te g) u D) := h
theorem name_if {σ : L2.St} {H : Hp} {D : Ends} {c : TT} {t1 t2 : TS} {u : TS} {i : Nat} {v : V} (h : tIfS c t1 t2 { D with nx := u D } (σ.set i (some v)) H) : gName i v σ H (tSeq (tIfS c t1 t2) u D) := h
theorem next_of {σ : L2.St} {H : Hp} {E : Ends} (h : E.nx σ H) : tNext E σ H := h
theorem seq_if {σ : L2.St} {H : Hp} {D : Ends} {c : TT} {t1 t2 : TS} {u : TS} (h : tIfS c t1 t2 { D with nx := u D } σ H) : tSeq (tIfS c t1 t2) u D σ H := h
theorem ret_of {σ : L2.St} {H : Hp} {D : Ends} {te : TE} (h : te σ H D.rt) : tRet te D σ H := h
theorem seq_ret {σ : L2.St} {H : Hp} {D : Ends} {te : TE} {u : TS} (h : te σ H D.rt) : tSeq (tRet te) u D σ H := h
theorem ans_str {σ : L2.St} {H : Hp} {i : Nat} {x y : Str} {b : Bool} (h : σ[i]? = some (some (.str x))) (hb : decide (x = y) = b) : Ans (tTest (tOp rEq (tVar i) (tC (.str y)))) σ H b := by
  refine ans_test ?_
  have e : V.bl b = V.bl (decide (V.str x = V.str y)) := by
    rw [← hb]
    congr 1
    rw [Bool.eq_iff_iff, decide_eq_true_iff, decide_eq_true_iff]
    exact ⟨fun e => congrArg _ e, fun e => V.str.inj e⟩
  rw [e]
  exact val_eq (val_var h) (fun Q q => q) rfl
theorem ns_of {K : PySem.W.Frag} {H : Hp} {G : List Str → Prop} : ∀ {acc : List V}, (∀ v, v ∈ acc → ∃ pth, G pth ∧ Dp K H v (dN pth)) → ∃ L, NsAt K H acc L ∧ ∀ pth ∈ L, G pth
  | [], _ => ⟨[], .nil, by simp⟩
  | v :: r, h => by
    obtain ⟨pth, h1, h2⟩ := h v (by simp)
    obtain ⟨L, h3, h4⟩ := ns_of (acc := r) fun u hu => h u (by simp [hu])
    refine ⟨pth :: L, .cons h2 h3, fun x hx => ?_⟩
    rcases List.mem_cons.mp hx with e | e
    · rw [e]; exact h1
    · exact h4 x e
theorem ne_nil_list (L : List (List Str)) : (!PyData.eqv (.list (L.map dN)) (.list [])) = !L.isEmpty := by
  cases L <;> simp [PyData.eqv, PyData.eqvAll]
section
variable {K : PySem.W.Frag} {σ : L2.St} {H : Hp}
/-- [names for names, form in _law_reads(scope) if ..] -/
theorem fits_lc {i j s : Nat} {tt : TT} {sa : Addr} {ns : List Str} {fs : List Fm} {Q : VK} (good : Fm → Prop) (hσ : σ[s]? = some (some (.ref sa))) (hS : ScAt K H sa ns fs) (hO : ScOk ns fs)
    (hw : ∀ x y, wipe (((wipe σ [i, j]).set i (some x)).set j (some y)) [i, j] = wipe σ [i, j]) (hi : ∀ x y, (((wipe σ [i, j]).set i (some x)).set j (some y))[i]? = some (some x))
    (htt : ∀ (H' : Hp) (f : Fm) (d : Nat) (x v : V) (C : Bool → Hp → Prop), Wf d f → d ≤ 5 → FmAt K H' v f → (∀ b H'', Ex H' H'' → (b = true → good f) → C b H'') → tt (((wipe σ [i, j]).set i (some x)).set j (some v)) H' C)
    (q : ∀ D H' xs L, Ex H H' → H D = none → H' D = some (.lst xs) → NsAt K H' xs L → (∀ pth ∈ L, PathW pth ∧ ∃ f, lookF (fieldOf ns fs) pth = some f ∧ good f) → L.length ≤ 2000 → Q (.ref D) H') :
    tLc (iList K (tCall (spLReads K) [] E0 (tCons (tVar s) tNil))) (gTup K 2 (gCons (gName i) (gCons (gName j) gNil))) tt (tVar i) [i, j] σ H Q := by
  refine ⟨_, hσ, sa, ns, fs, rfl, hS, hO, fun D1 H1 xs L e1 _ hD1 hLd hLg hLl => ?_⟩
  have hxl : xs.length = L.length := by rw [DpAll.length hLd, List.length_map]
  refine ⟨D1, rfl, ⟨xs, SqL.of hD1⟩, fun D hD => lc_filt (walk_list (a := D1) (xs := xs)) (fun H' => Ex H1 H') (fun v H' => ∃ pth, (PathW pth ∧ ∃ f, lookF (fieldOf ns fs) pth = some f ∧ good f) ∧ Dp K H' v (dN pth)) (Ex.new hD) (fun H' o e => e.mut hD) (fun H' e => SqL.of (e _ _ hD1))
    (fun v H' H'' h m => let ⟨p, a, b⟩ := h; ⟨p, a, Dp.im m (noL_dN p) b⟩) (szl (by omega)) ?_ ?_⟩
  · rintro n x H' H'' C N hn fr hacc ⟨rfl, hx⟩ kc kn
    obtain ⟨⟨pth, f⟩, hpf⟩ : ∃ x, L[n]? = some x := ⟨_, List.getElem?_eq_getElem (by omega)⟩
    have hgi := hLg _ (List.mem_of_getElem? hpf)
    obtain ⟨dd, hd1, hd2⟩ := DpAll.getV hLd hx
    rw [List.getElem?_map, hpf] at hd1
    cases hd1
    unfold dI at hd2
    obtain ⟨c, zs, rfl, hTc, hAc⟩ := Dp.tupInv hd2
    cases hAc with
    | cons c1 hAc =>
    cases hAc with
    | cons c2 hAc =>
    cases hAc
    rename_i vp vf
    have im := Im.ex fr
    obtain ⟨d, hwf, hdl⟩ := hgi.wf
    refine ⟨c, _, rfl, im.sqT hTc, rfl, _, _, rfl, _, _, rfl, rfl, hw _ _, htt _ f d vp vf _ hwf (by omega) (Dp.im im (noL_pd f) c2) fun b H2 e2 hg => ?_⟩
    cases b with
    | true => exact ⟨_, hi _ _, kc _ _ (fr.trans e2) (Im.ex e2) (ex_at e2 hacc) ⟨pth, ⟨hgi.pw, f, hgi.lk, hg rfl⟩, Dp.im (im.trans (Im.ex e2)) (noL_dN pth) c1⟩⟩
    | false => exact kn _ (fr.trans e2) (Im.ex e2) (ex_at e2 hacc)
  · intro H' acc fr hacc hl hall
    obtain ⟨L2, h1, h2⟩ := ns_of hall
    refine q D H' acc L2 (e1.trans fr) ?_ hacc h1 h2 (by rw [← h1.len]; omega)
    cases e : H D with
    | none => rfl
    | some o' => rw [e1 _ _ e] at hD; cases hD
/-- xs != [] -/
theorem test_ne {i : Nat} {D : Addr} {xs : List V} {L : List (List Str)} {C : Bool → Hp → Prop} (hσ : σ[i]? = some (some (.ref D))) (hD : H D = some (.lst xs)) (hL : NsAt K H xs L) (hok : ∀ pth ∈ L, PathOk pth) (k : ∀ H1, Ex H H1 → C (!L.isEmpty) H1) :
    tTest (tOp (rNeD K) (tVar i) (tLst tNil)) σ H C := by
  refine ⟨_, hσ, by show 0 ≤ sizeLine; decide, fun l hl => ?_⟩
  have e := Ex.new (o := .lst []) hl
  refine ⟨.list (L.map dN), .list [], .lst (SqL.of (e _ _ hD)) ((hL.im (Im.ex e)).dp), .lst (SqL.of upd_same) .nil, shaped_dNs hok, by decide +kernel, _, rfl, ?_⟩
  rw [ne_nil_list]
  exact k _ e
/-- ('get', xs[draw(pool, len(xs))]) -/
theorem get_one {i : Nat} {p D : Addr} {xs : List V} {L : List (List Str)} {Q : VK} (h0 : σ[0]? = some (some (.ref p))) (hσ : σ[i]? = some (some (.ref D))) (hp : PoolAt H p) (hD : H D = some (.lst xs)) (hDp : D ≠ p) (hL : NsAt K H xs L) (hne : L ≠ []) (hl : L.length ≤ 2000)
    (q : ∀ v H' pth, Pl p H H' → pth ∈ L → TrAt K H' v (.get pth) → Q v H') :
    tTup (tCons (tC (.str "get")) (tCons (tOp (rIxL K) (tVar i) (tCall spDraw [] E0 (tCons (tVar 0) (tCons (tCB (rLenS K) (tCons (tVar i) tNil)) tNil)))) tNil)) σ H Q := by
  have hxl := hL.len
  have hpos : 0 < L.length := List.length_pos_iff.mpr hne
  refine ⟨_, hσ, _, h0, _, hσ, D, xs, rfl, .inl (SqL.of hD), p, _, rfl, hp, by omega, by omega, fun d0 H1 pl1 d1 d2 => ?_⟩
  obtain ⟨d, rfl⟩ := Int.eq_ofNat_of_zero_le d1
  obtain ⟨v, hv⟩ : ∃ v, xs[d]? = some v := ⟨_, List.getElem?_eq_getElem (by omega)⟩
  obtain ⟨pth, hp1, hp2⟩ := hL.get hv
  refine ⟨D, xs, _, v, rfl, rfl, SqL.of (pl1.keep _ _ hDp hD), at_of rfl hv, by show 2 ≤ sizeLine; decide, fun a ha => ?_⟩
  refine q _ _ pth (pl1.ex (Ex.new ha)) (List.mem_of_getElem? hp1) ?_
  unfold TrAt
  simp only [td]
  exact Dp.new ha (.cons (.str _) (.cons (Dp.im (pl1.im hp) (noL_dN pth) hp2) .nil)) (by simp only [noLs, noL, noL_strs]; rfl)
def spExpr (K : PySem.W.Frag) (n : Nat) : Sp := fun vs H Q _ => ∃ (p s : Addr) (kd : Kd) (d : Nat) (ns : List Str) (fs : List Fm), vs = [.ref p, .ref s, .str kd.str, .int (d : Int)] ∧ d < n ∧ PoolAt H p ∧ ScAt K H s ns fs ∧ ScOk ns fs ∧
  ∀ v t H', Pl p H H' → TrAt K H' v t → Tok (fieldOf ns fs) kd (d + 1) t → Q v H'
def spLCall (K : PySem.W.Frag) (n : Nat) : Sp := fun vs H Q _ => ∃ (p s : Addr) (kd : Kd) (d : Nat) (ns : List Str) (fs : List Fm), vs = [.ref p, .ref s, .str kd.str, .int (d : Int)] ∧ 0 < d ∧ d ≤ n ∧ PoolAt H p ∧ ScAt K H s ns fs ∧ ScOk ns fs ∧
  ∀ v t H', Pl p H H' → TrAt K H' v t → Tok (fieldOf ns fs) kd (d + 1) t → Q v H'
/-- tuple([_law_expr(pool, scope, inner, deep - 1) for k in range(m)]) -/
theorem args_tup {c : Nat} {n m d : Nat} {p s : Addr} {kd : Kd} {ns : List Str} {fs : List Fm} {te : TA} {Q : VK} (h0 : σ[0]? = some (some (.ref p))) (h1 : σ[1]? = some (some (.ref s))) (h5 : σ[5]? = some (some (.str kd.str))) (h3 : σ[3]? = some (some (.int ((d + 1 : Nat) : Int)))) (hc : 5 < c)
    (hm : m ≤ 3) (hte : ∀ R : List V → Hp → Prop, R [.int (m : Int)] H → te σ H R) (hd : d < n) (hp : PoolAt H p) (hS : ScAt K H s ns fs) (hO : ScOk ns fs)
    (hw : ∀ x, wipe ((wipe σ [c]).set c (some x)) [c] = wipe σ [c])
    (q : ∀ v ts H', Pl p H H' → Dp K H' v (.tuple (tds ts)) → ts.length = m → (∀ t ∈ ts, Tok (fieldOf ns fs) kd (d + 1) t) → Q v H') :
    tCB (fun xs H Q => ∃ p ys, xs = [V.ref p] ∧ ((SqL K H p ys ∧ ∀ l, H l = none → Q (.ref l) (upd H l (.tup ys))) ∨ (SqT K H p ys ∧ Q (.ref p) H)))
      (tCons (tLc (iRng1 te) (gName c) tYes (tCall (spExpr K n) [] E0 (tCons (tVar 0) (tCons (tVar 1) (tCons (tVar 5) (tCons (tOp (rI0 fun i j => V.int (i - j)) (tVar 3) (tC (.int 1))) tNil))))) [c]) tNil) σ H Q := by
  have get : ∀ (i : Nat) (x : V) (y : Option V), i ≠ c → σ[i]? = some (some x) → ((wipe σ [c]).set c y)[i]? = some (some x) := by
    intro i x y hi hx
    rw [List.getElem?_set_ne (fun e => hi e.symm)]
    show (σ.set c none)[i]? = _
    rw [List.getElem?_set_ne (fun e => hi e.symm)]
    exact hx
  refine hte _ ⟨_, rfl, by omega, by omega, fun D hD => lc_gen (walk_range (n := m)) (fun H' => Pl p H H') (fun i v H' => ∃ t, Tok (fieldOf ns fs) kd (d + 1) t ∧ TrAt K H' v t) (Pl.new hp (Pl.refl hp) hD) (fun H' o e => e.mut hp hD) (fun H' e => trivial)
    (fun i v H' H'' h m => let ⟨t, a, b⟩ := h; ⟨t, a, b.im m⟩) (szl (by omega)) ?_ ?_⟩
  · rintro i x H' H'' C hi fr hacc ⟨rfl, rfl⟩ kk
    have np : D ≠ p := by
      obtain ⟨_, _, _, z, _⟩ := hp
      exact (ne_of_none z hD).symm
    refine ⟨hw _, _, get 0 _ _ (by omega) h0, _, get 1 _ _ (by omega) h1, _, get 5 _ _ (by omega) h5, _, get 3 _ _ (by omega) h3, _, _, rfl, rfl, p, s, kd, d, ns, fs, ?_, hd, fr.pool, hS.im (fr.im hp), hO, fun v t H2 pl2 ht hk => kk _ _ (fr.trans pl2) (pl2.im fr.pool) (pl_at pl2 np hacc) ⟨t, hk, ht⟩⟩
    exact congrArg (fun z => [V.ref p, V.ref s, V.str kd.str, V.int z]) (show ((d + 1 : Nat) : Int) - 1 = (d : Int) by omega)
  · intro H1 acc fr hacc hal hall
    obtain ⟨ts, h4, h5, h6⟩ := items_of (g := td) (Good := fun _ t => Tok (fieldOf ns fs) kd (d + 1) t) hall
    refine ⟨D, acc, rfl, .inl ⟨SqL.of hacc, fun l hl => ?_⟩⟩
    have etd : ∀ ts : List Tree, ts.map td = tds ts := by
      intro ts
      induction ts with
      | nil => rfl
      | cons t r ih => simp [tds, ih]
    rw [etd] at h6
    refine q _ ts _ (fr.ex (Ex.new hl)) (Dp.new hl h6 (noL_tds ts)) (by omega) fun t ht => ?_
    obtain ⟨i, hi⟩ := List.mem_iff_getElem?.mp ht
    exact h5 i t hi
end
end RT
/-! the law's own expressions -/
namespace RT
open PySem PySem.Spec PyProof.Rows L2 Evl
theorem quotOk : ∀ x ∈ (["", "a", "x y", "<", "&~/"] : List Str), Quot x := by
  intro x hx
  simp only [List.mem_cons, List.not_mem_nil, or_false] at hx
  rcases hx with rfl | rfl | rfl | rfl | rfl <;> exact ⟨by decide +kernel, by decide +kernel⟩
section
variable {P : Program} {w : World} {K : PySem.W.Frag} {mg : Str → Option Value} {base : Heap} {k : Nat}
abbrev st_law_expr : Stmt := (topS 45)
theorem sc_law_expr : FnScope ["_law_pool_here", "_law_scope_here", "_law_kind", "_law_deep", "_law_fit", "_law_maybe", "_law_way", "_law_first", "_law_names", "_law_form_here"] ["_law_pool_here", "_law_scope_here", "_law_kind", "_law_deep"] (defScope st_law_expr) := ⟨rfl, rfl, rfl, by decide +kernel, rfl, by decide +kernel, by decide +kernel⟩
theorem expr_none (F : Df K mg "_law_expr" ["_law_pool_here", "_law_scope_here", "_law_kind", "_law_deep"] st_law_expr) : Cl P w K mg base 2 "_law_expr" (spExpr K 0) := by
  obtain ⟨f, fd, F, m, b⟩ := F.ex
  have no : ∀ vs H Q E, ¬ spExpr K 0 vs H Q E := fun vs H Q E h => by
    obtain ⟨p, s, kd, d, ns, fs, _, h1, _⟩ := h
    omega
  exact ⟨f, fd, _, ⟨fun vs H Q E h => absurd h (no vs H Q E), fun A outer s H args us vs Q E _ _ _ _ h => absurd h (no vs H Q E)⟩, m, F.kp, b⟩
theorem ok_expr (n : Nat) (T : Bi mg) (F : Df K mg "_law_expr" ["_law_pool_here", "_law_scope_here", "_law_kind", "_law_deep"] st_law_expr) (c_law_draw : Cl P w K mg base 1 "_law_draw" spDraw) (c_law_reads : Cl P w K mg base 1 "_law_reads" (spLReads K))
    (c_law_expr : Cl P w K mg base (2 * n + 2) "_law_expr" (spExpr K n)) (c_law_call : Cl P w K mg base (2 * n + 3) "_law_call" (spLCall K n)) : Cl P w K mg base (2 * n + 4) "_law_expr" (spExpr K (n + 1)) := by
  refine F.ok (k := 2 * n + 3) sc_law_expr (fun vs H Q E h => ?_) (fun f cdv A outer s H vs Q E hr h => ?_)
  · obtain ⟨p, s, kd, d, ns, fs, rfl, _⟩ := h
    rfl
  obtain ⟨p, s, kd, d, ns, fs, rfl, hdn, hp, hS, hO, q⟩ := h
  refine ⟨_, (pss_cons (ps_setLc (i := 4) (own := [("_law_names", 8), ("_law_form_here", 9)]) (g := gTup K 2 (gCons (gName 8) (gCons (gName 9) gNil))) (tt := tTest (tOp (rEqD K) _ (tTup (tCons (tVar 2) tNil))))  rfl sc_law_expr.nd rfl rfl (sw_true rfl rfl rfl (by decide +kernel)) (pi_list (pc c_law_reads hr (by omega) rfl (pa_cons (pv 1) pa_nil))) (blkOk_by (own := [("_law_names", 8), ("_law_form_here", 9)]) (N := ["_law_pool_here", "_law_scope_here", "_law_kind", "_law_deep", "_law_fit", "_law_maybe", "_law_way", "_law_first", "_law_names", "_law_form_here"]) (sc := defScope st_law_expr) (by decide +kernel)) (fun _ _ _ _ _ => (pg_tup rfl (pgs_cons (pg_name (i := 8) sc_law_expr.nd rfl (Or.inl rfl)) (pgs_cons (pg_name (i := 9) sc_law_expr.nd rfl (Or.inl rfl)) pgs_nil)))) (fun _ _ _ _ _ => (pts_one (pt_cmpR (op_eqD hr.units) (pv 9) (pe_tup (pa_cons (pv 2) pa_nil)) (nomark _)))) (fun _ _ _ _ _ => (pv 8)))
      (pss_cons (ps_setLc (i := 5) (own := [("_law_names", 8), ("_law_form_here", 9)]) (g := gTup K 2 (gCons (gName 8) (gCons (gName 9) gNil))) (tt := tTest (tOp (rEqD K) _ (tTup (tCons (tC (.str "optional")) (tCons (tTup (tCons (tVar 2) tNil)) tNil)))))  rfl sc_law_expr.nd rfl rfl (sw_true rfl rfl rfl (by decide +kernel)) (pi_list (pc c_law_reads hr (by omega) rfl (pa_cons (pv 1) pa_nil))) (blkOk_by (own := [("_law_names", 8), ("_law_form_here", 9)]) (N := ["_law_pool_here", "_law_scope_here", "_law_kind", "_law_deep", "_law_fit", "_law_maybe", "_law_way", "_law_first", "_law_names", "_law_form_here"]) (sc := defScope st_law_expr) (by decide +kernel)) (fun _ _ _ _ _ => (pg_tup rfl (pgs_cons (pg_name (i := 8) sc_law_expr.nd rfl (Or.inl rfl)) (pgs_cons (pg_name (i := 9) sc_law_expr.nd rfl (Or.inl rfl)) pgs_nil)))) (fun _ _ _ _ _ => (pts_one (pt_cmpR (op_eqD hr.units) (pv 9) (pe_tup (pa_cons pe_str (pa_cons (pe_tup (pa_cons (pv 2) pa_nil)) pa_nil))) (nomark _)))) (fun _ _ _ _ _ => (pv 8)))
      (pss_cons (ps_set (i := 6) sc_law_expr.nd rfl (Or.inl rfl) (pc c_law_draw hr (by omega) rfl (pa_cons (pv 0) (pa_cons pe_int pa_nil))))
      (pss_cons (ps_if (PW.pt (pw_and (pt_cmpR (op_neD hr.units) (pv 4) (pe_lst pa_nil) (nomark _)) (pw_and1 (pt_cmpR op_lt (pv 6) pe_int (nomark _))))) (pss_one (ps_ret (pe_tup (pa_cons pe_str (pa_cons (pe_ix ix_list (pv 4) (pc c_law_draw hr (by omega) rfl (pa_cons (pv 0) (pa_cons (pe_callB call_len_seq rfl T.len PySem.boot_len (pa_cons (pv 4) pa_nil)) pa_nil))) (fun _ _ => rfl)) pa_nil))))) pss_nil)
      (pss_cons (ps_if (PW.pt (pw_and (pt_cmpR op_gt (pv 3) pe_int (nomark _)) (pw_and (pt_cmpR (op_neD hr.units) (pv 5) (pe_lst pa_nil) (nomark _)) (pw_and1 (pt_cmpR op_eq (pv 6) pe_int (nomark _)))))) (pss_cons (ps_set (i := 7) sc_law_expr.nd rfl (Or.inl rfl) (pe_tup (pa_cons pe_str (pa_cons (pe_ix ix_list (pv 5) (pc c_law_draw hr (by omega) rfl (pa_cons (pv 0) (pa_cons (pe_callB call_len_seq rfl T.len PySem.boot_len (pa_cons (pv 5) pa_nil)) pa_nil))) (fun _ _ => rfl)) pa_nil))))
      (pss_one (ps_ret (pe_tup (pa_cons pe_str (pa_cons pe_str (pa_cons (pe_tup (pa_cons (pv 7) (pa_cons (pc c_law_expr hr (by omega) rfl (pa_cons (pv 0) (pa_cons (pv 1) (pa_cons (pv 2) (pa_cons (pe_op op_sub (pv 3) pe_int) pa_nil))))) pa_nil))) pa_nil))))))) pss_nil)
      (pss_cons (ps_if (PW.pt (pw_and (pt_cmpR op_gt (pv 3) pe_int (nomark _)) (pw_and1 (pt_cmpR op_gt (pv 6) pe_int (nomark _))))) (pss_one (ps_ret (pc c_law_call hr (by omega) rfl (pa_cons (pv 0) (pa_cons (pv 1) (pa_cons (pv 2) (pa_cons (pv 3) pa_nil))))))) pss_nil)
      (pss_cons (ps_if (pt_cmpR op_eq (pv 2) pe_str (nomark _)) (pss_one (ps_ret (pe_tup (pa_cons pe_str (pa_cons (pe_ix ix_list (pe_lst (pa_cons pe_str (pa_cons pe_str (pa_cons pe_str (pa_cons pe_str (pa_cons pe_str pa_nil)))))) (pc c_law_draw hr (by omega) rfl (pa_cons (pv 0) (pa_cons pe_int pa_nil))) (fun _ _ => rfl)) pa_nil))))) pss_nil)
      (pss_cons (ps_if (pt_cmpR op_eq (pv 2) pe_str (nomark _)) (pss_one (ps_ret (pe_tup (pa_cons pe_str (pa_cons (pe_ix ix_list (pe_lst (pa_cons pe_int (pa_cons pe_int (pa_cons (pe_un un_neg pe_int) (pa_cons (pe_op op_pow pe_int pe_int) pa_nil))))) (pc c_law_draw hr (by omega) rfl (pa_cons (pv 0) (pa_cons pe_int pa_nil))) (fun _ _ => rfl)) pa_nil))))) pss_nil)
      (pss_one (ps_ret (pe_tup (pa_cons pe_str (pa_cons (pe_cmpR op_eq (pc c_law_draw hr (by omega) rfl (pa_cons (pv 0) (pa_cons pe_int pa_nil))) pe_int (nomark _)) pa_nil))))))))))))), ?_⟩
  refine seq_asg (fits_lc (s := 1) (fun f => f = kd.fm) rfl hS hO (fun _ _ => rfl) (fun _ _ => rfl) ?_ ?_)
  · intro H' f d x v C hw hd hf kk
    refine ⟨_, rfl, _, rfl, by show 1 ≤ sizeLine; decide, fun c hc => ?_⟩
    exact ⟨pd f, .tuple [.str kd.str], hf.im (Im.new hc), .tup (SqT.of upd_same) (.cons (.str _) .nil), shaped_pd hw hd, shaped_k kd, _, rfl, kk _ _ (Ex.new hc) fun e => eq_kind e⟩
  intro D1 H1 xs1 L1 e1 hD1n hD1 hL1 hG1 hl1
  refine name_seq (fits_lc (s := 1) (fun f => f = .opt kd.fm) rfl (hS.im (Im.ex e1)) hO (fun _ _ => rfl) (fun _ _ => rfl) ?_ ?_)
  · intro H' f d x v C hw hd hf kk
    refine ⟨_, rfl, _, rfl, by show 1 ≤ sizeLine; decide, fun c hc => ⟨by show 2 ≤ sizeLine; decide, fun c2 hc2 => ?_⟩⟩
    have d1 : Dp K (upd H' c (.tup [.str kd.str])) (.ref c) (.tuple [.str kd.str]) := Dp.new hc (.cons (.str _) .nil) rfl
    exact ⟨pd f, .tuple [.str "optional", .tuple [.str kd.str]], hf.im ((Im.new hc).trans (Im.new hc2)), Dp.new hc2 (.cons (.str _) (.cons d1 .nil)) rfl, shaped_pd hw hd, shaped_ok kd, _, rfl, kk _ _ ((Ex.new hc).trans (Ex.new hc2)) fun e => eq_opt e⟩
  intro D2 H2 xs2 L2 e2 hD2n hD2 hL2 hG2 hl2
  have e12 := e1.trans e2
  have pl2 := Pl.of_ex hp e12
  have np1 : D1 ≠ p := by
    obtain ⟨_, _, _, z, _⟩ := hp
    exact (ne_of_none z hD1n).symm
  have np2 : D2 ≠ p := by
    obtain ⟨_, _, _, z, _⟩ := (Pl.of_ex hp e1).pool
    exact (ne_of_none z hD2n).symm
  refine ⟨_, rfl, p, 6, rfl, pl2.pool, by decide, by decide, fun way H3 pl3 w0 w1 => ?_⟩
  have pl3' := pl2.trans pl3
  have hD13 : H3 D1 = some (.lst xs1) := pl3.keep _ _ np1 (e2 _ _ hD1)
  have hL13 := hL1.im ((Im.ex e2).trans (pl3.im pl2.pool))
  have hD23 : H3 D2 = some (.lst xs2) := pl3.keep _ _ np2 hD2
  have hL23 := hL2.im (pl3.im pl2.pool)
  have leafTok : ∀ {t : Tree}, WT (fieldOf ns fs) kd t → dep t = 1 → rds t = [] → Tok (fieldOf ns fs) kd (d + 1) t := fun h1 h2 h3 => ⟨h1, by omega, by rw [h3]; simp⟩
  dsimp only
  refine name_if (if_cps (fun b H' => Ex H3 H' ∧ (b = true → L1 ≠ [])) (fun C kk => ?_) (fun H4 g => ?_) (fun H4 g => ?_))
  · refine test_ne (D := D1) rfl hD13 hL13 (fun pth h => (hG1 pth h).1.ok) fun H4 e4 => ?_
    cases L1 with
    | nil => exact kk false H4 ⟨e4, fun z => by cases z⟩
    | cons a r =>
      refine iteT ?_
      refine ⟨_, rfl, _, _, rfl, rfl, _, rfl, kk _ H4 ⟨e4, fun _ => by simp⟩⟩
  · have pl4 := pl3'.ex g.1
    refine get_one (i := 4) (p := p) (D := D1) rfl rfl pl4.pool (g.1 _ _ hD13) np1 (hL13.im (Im.ex g.1)) (g.2 rfl) hl1 fun v H5 pth pl5 hm ht => ?_
    obtain ⟨hpw, f, hlk, rfl⟩ := hG1 pth hm
    exact q v (.get pth) H5 (pl4.trans pl5) ht ⟨.get hlk, by simp only [dep]; omega, fun m hm => by simp [rds] at hm; rw [hm]; exact hpw⟩
  have pl4 := pl3'.ex g.1
  have hD24 := g.1 _ _ hD23
  have hL24 := hL23.im (Im.ex g.1)
  refine next_of ?_
  dsimp only
  refine seq_if (if_cps (fun b H' => Ex H4 H' ∧ (b = true → L2 ≠ [] ∧ 0 < d)) (fun C kk => ?_) (fun H5 g2 => ?_) (fun H5 g2 => ?_))
  · refine ⟨_, rfl, _, _, rfl, rfl, _, rfl, ?_⟩
    by_cases hd0 : 0 < d
    · rw [decide_eq_true (show (0 : Int) < (d : Int) by omega)]
      refine iteT ?_
      refine test_ne (D := D2) rfl hD24 hL24 (fun pth h => (hG2 pth h).1.ok) fun H5 e5 => ?_
      cases L2 with
      | nil => exact kk false H5 ⟨e5, fun z => by cases z⟩
      | cons a r =>
        refine iteT ?_
        refine ⟨_, rfl, rfl, _, rfl, kk _ H5 ⟨e5, fun _ => ⟨by simp, hd0⟩⟩⟩
    · rw [decide_eq_false (show ¬ (0 : Int) < (d : Int) by omega)]
      exact kk false H4 ⟨Ex.refl _, fun z => by cases z⟩
  · have pl5 := pl4.ex g2.1
    obtain ⟨hne, hd0⟩ := g2.2 rfl
    obtain ⟨d', rfl⟩ : ∃ d', d = d' + 1 := ⟨d - 1, by omega⟩
    refine seq_asg (get_one (i := 5) (p := p) (D := D2) rfl rfl pl5.pool (g2.1 _ _ hD24) np2 (hL24.im (Im.ex g2.1)) hne hl2 fun v H6 pth pl6 hm ht => ?_)
    obtain ⟨hpw, f, hlk, rfl⟩ := hG2 pth hm
    have pl6' := pl5.trans pl6
    refine ⟨_, rfl, _, rfl, _, rfl, _, rfl, _, rfl, _, _, rfl, rfl, p, s, kd, d', ns, fs, ?_, by omega, pl6'.pool, hS.im (pl6'.im hp), hO, fun v2 t2 H7 pl7 ht2 hk2 => ?_⟩
    · exact congrArg (fun z => [V.ref p, V.ref s, V.str kd.str, V.int z]) (show ((d' + 1 : Nat) : Int) - 1 = (d' : Int) by omega)
    refine ⟨by show 2 ≤ sizeLine; decide, fun a ha => ⟨by show 3 ≤ sizeLine; decide, fun b hb => ?_⟩⟩
    have dA : Dp K (upd H7 a (.tup [v, v2])) (.ref a) (.tuple (tds [.get pth, t2])) := by
      simp only [tds]
      exact Dp.new ha (.cons (ht.im (pl7.im pl6'.pool)) (.cons ht2 .nil)) (by simp only [noLs, noL_td]; rfl)
    refine q _ (.call .orElse [.get pth, t2]) _ ((pl6'.trans pl7).ex ((Ex.new ha).trans (Ex.new hb))) ?_ ⟨.orElse hlk hk2.wt, ?_, fun m hm => ?_⟩
    · unfold TrAt
      rw [td]
      exact Dp.new hb (.cons (.str _) (.cons (.str _) (.cons dA .nil))) (by simp only [noLs, noL, noL_tds]; rfl)
    · have := hk2.dp
      simp only [dep, deps]
      omega
    · simp only [rds, rdss, List.mem_append, List.mem_singleton, List.not_mem_nil, or_false] at hm
      rcases hm with h | h
      · rw [h]; exact hpw
      · exact hk2.pw m h
  have pl5 := pl4.ex g2.1
  refine next_of ?_
  dsimp only
  refine seq_if (if_cps (fun b H' => H' = H5 ∧ (b = true → 0 < d)) (fun C kk => ?_) (fun H6 g3 => ?_) (fun H6 g3 => ?_))
  · refine ⟨_, rfl, _, _, rfl, rfl, _, rfl, ?_⟩
    by_cases hd0 : 0 < d
    · rw [decide_eq_true (show (0 : Int) < (d : Int) by omega)]
      refine iteT ?_
      exact ⟨_, rfl, _, _, rfl, rfl, _, rfl, kk _ H5 ⟨rfl, fun _ => hd0⟩⟩
    · rw [decide_eq_false (show ¬ (0 : Int) < (d : Int) by omega)]
      exact kk false H5 ⟨rfl, fun z => by cases z⟩
  · obtain ⟨rfl, hd0⟩ := g3
    exact ⟨_, rfl, _, rfl, _, rfl, _, rfl, p, s, kd, d, ns, fs, rfl, hd0 rfl, by omega, pl5.pool, hS.im (pl5.im hp), hO, fun v t H7 pl7 ht hk => q v t H7 (pl5.trans pl7) ht hk⟩
  obtain ⟨rfl, _⟩ := g3
  cases kd with
  | text =>
    refine st_ifb (ans_str (b := true) rfl (by decide +kernel)) ?_
    refine iteT ?_
    refine ⟨by show 5 ≤ sizeLine; decide, fun l hl => ?_⟩
    have pl6 := pl5.ex (Ex.new (o := .lst ((["", "a", "x y", "<", "&~/"] : List Str).map V.str)) hl)
    have npl : l ≠ p := by
      obtain ⟨_, _, _, z, _⟩ := pl5.pool
      exact (ne_of_none z hl).symm
    refine ⟨_, rfl, p, 5, rfl, pl6.pool, by decide, by decide, fun g0 H7 pl7 g1 g2 => ?_⟩
    obtain ⟨g, rfl⟩ := Int.eq_ofNat_of_zero_le g1
    obtain ⟨x, hx⟩ : ∃ x, (["", "a", "x y", "<", "&~/"] : List Str)[g]? = some x := ⟨_, List.getElem?_eq_getElem (by show g < 5; omega)⟩
    have hxv : ((["", "a", "x y", "<", "&~/"] : List Str).map V.str)[g]? = some (.str x) := by rw [List.getElem?_map, hx]; rfl
    refine ⟨l, _, _, .str x, rfl, rfl, SqL.of (pl7.keep _ _ npl upd_same), at_of rfl hxv, by show 2 ≤ sizeLine; decide, fun a ha => ?_⟩
    refine q _ (.text x) _ ((pl6.trans pl7).ex (Ex.new ha)) ?_ (leafTok (.text (quotOk x (List.mem_of_getElem? hx))) (by simp only [dep]) (by simp only [rds]))
    unfold TrAt
    rw [td]
    exact Dp.new ha (.cons (.str _) (.cons (.str _) .nil)) rfl
  | number =>
    refine st_ifb (ans_str (b := false) rfl (by decide +kernel)) ?_
    refine iteF ?_
    refine st_ifb (ans_str (b := true) rfl (by decide +kernel)) ?_
    refine iteT ?_
    refine ⟨_, rfl, _, _, rfl, rfl, ⟨by decide, by decide, by decide⟩, by show 4 ≤ sizeLine; decide, fun l hl => ?_⟩
    have pl6 := pl5.ex (Ex.new (o := .lst [.int 0, .int 7, .int (-12), .int (10 ^ (14 : Int).toNat)]) hl)
    have npl : l ≠ p := by
      obtain ⟨_, _, _, z, _⟩ := pl5.pool
      exact (ne_of_none z hl).symm
    refine ⟨_, rfl, p, 4, rfl, pl6.pool, by decide, by decide, fun g0 H7 pl7 g1 g2 => ?_⟩
    obtain ⟨g, rfl⟩ := Int.eq_ofNat_of_zero_le g1
    obtain ⟨x, hx, hx2⟩ : ∃ x : Int, [V.int 0, V.int 7, V.int (-12), V.int (10 ^ (14 : Int).toNat)][g]? = some (.int x) ∧ (x = 0 ∨ x = 7 ∨ x = -12 ∨ x = 100000000000000) := by
      have hc : g = 0 ∨ g = 1 ∨ g = 2 ∨ g = 3 := by omega
      rcases hc with rfl | rfl | rfl | rfl
      · exact ⟨0, rfl, .inl rfl⟩
      · exact ⟨7, rfl, .inr (.inl rfl)⟩
      · exact ⟨-12, rfl, .inr (.inr (.inl rfl))⟩
      · exact ⟨_, rfl, .inr (.inr (.inr (by decide)))⟩
    refine ⟨l, _, _, .int x, rfl, rfl, SqL.of (pl7.keep _ _ npl upd_same), at_of rfl hx, by show 2 ≤ sizeLine; decide, fun a ha => ?_⟩
    refine q _ (.number x) _ ((pl6.trans pl7).ex (Ex.new ha)) ?_ (leafTok (.number hx2) (by simp only [dep]) (by simp only [rds]))
    unfold TrAt
    rw [td]
    exact Dp.new ha (.cons (.str _) (.cons (.int _) .nil)) rfl
  | flag =>
    refine st_ifb (ans_str (b := false) rfl (by decide +kernel)) ?_
    refine iteF ?_
    refine st_ifb (ans_str (b := false) rfl (by decide +kernel)) ?_
    refine iteF ?_
    refine ⟨_, rfl, p, 2, rfl, pl5.pool, by decide, by decide, fun g0 H7 pl7 g1 g2 => ⟨rfl, by show 2 ≤ sizeLine; decide, fun a ha => ?_⟩⟩
    refine q _ (.flag (decide (V.int g0 = V.int 0))) _ ((pl5.trans pl7).ex (Ex.new ha)) ?_ (leafTok (.flag _) (by simp only [dep]) (by simp only [rds]))
    unfold TrAt
    rw [td]
    exact Dp.new ha (.cons (.str _) (.cons (.bl _) .nil)) rfl
end
end RT
/-! the law's own calls -/
namespace RT
open PySem PySem.Spec PyProof.Rows L2 Evl
theorem tag_list (f : Fm) : inV (.str (tag f)) [V.str "list", V.str "keyed"] = f.isList := by
  cases f <;> first | decide +kernel | (simp only [tag]; rfl) | (show _ = true; simp only [tag]; decide +kernel) | (show _ = false; simp only [tag]; decide +kernel)
theorem tok_args {sc : Str → Option Fm} {kd : Kd} {d : Nat} {v : Wd} {ts : List Tree} {k2 : Kd} (h : ∀ t ∈ ts, Tok sc k2 (d + 1) t) (hw : WT sc kd (.call v ts)) : Tok sc kd (d + 2) (.call v ts) := by
  refine ⟨hw, ?_, ?_⟩
  · have := deps_le (n := d + 1) (ts := ts) fun t ht => (h t ht).dp
    simp only [dep]
    omega
  · simp only [rds]
    exact pw_rdss fun t ht => (h t ht).pw
theorem ret_call {σ : L2.St} {H : Hp} {D : Ends} {x y : Str} {te : TE} (h : te σ H fun v H1 => [v].length ≤ sizeLine ∧ ∀ a, H1 a = none → [V.str x, V.str y, V.ref a].length ≤ sizeLine ∧ ∀ b, (upd H1 a (.tup [v])) b = none → D.rt (.ref b) (upd (upd H1 a (.tup [v])) b (.tup [.str x, .str y, .ref a]))) :
    tRet (tTup (tCons (tC (.str x)) (tCons (tC (.str y)) (tCons (tTup (tCons te tNil)) tNil)))) D σ H := h
theorem ret_args {σ : L2.St} {H : Hp} {D : Ends} {x : Str} {i : Nat} {v6 : V} {te : TE} (hσ : σ[i]? = some (some v6)) (h : te σ H fun v H1 => [V.str x, v6, v].length ≤ sizeLine ∧ ∀ b, H1 b = none → D.rt (.ref b) (upd H1 b (.tup [.str x, v6, v]))) :
    tRet (tTup (tCons (tC (.str x)) (tCons (tVar i) (tCons te tNil)))) D σ H := ⟨_, hσ, h⟩
/-- a call of one argument, laid -/
theorem call1_at {K : PySem.W.Frag} {H : Hp} {v : V} {t : Tree} {wd : Wd} {a b : Addr} (ht : TrAt K H v t) (ha : H a = none) (hb : (upd H a (.tup [v])) b = none) : TrAt K (upd (upd H a (.tup [v])) b (.tup [.str "call", .str wd.str, .ref a])) (.ref b) (.call wd [t]) := by
  have dA : Dp K (upd H a (.tup [v])) (.ref a) (.tuple (tds [t])) := by
    simp only [tds]
    exact Dp.new ha (.cons ht .nil) (by simp only [noLs, noL_td]; rfl)
  unfold TrAt
  rw [td]
  exact Dp.new hb (.cons (.str _) (.cons (.str _) (.cons dA .nil))) (by simp only [noLs, noL, noL_tds]; rfl)
theorem calls_at {K : PySem.W.Frag} {H : Hp} {v : V} {ts : List Tree} {wd : Wd} {b : Addr} (ht : Dp K H v (.tuple (tds ts))) (hb : H b = none) : TrAt K (upd H b (.tup [.str "call", .str wd.str, v])) (.ref b) (.call wd ts) := by
  unfold TrAt
  rw [td]
  exact Dp.new hb (.cons (.str _) (.cons (.str _) (.cons ht .nil))) (by simp only [noLs, noL, noL_tds]; rfl)
def jk : Kd → Nat
  | .text => 1
  | _ => 0
def wk : Kd → Wd
  | .text => .joined
  | _ => .sum
theorem jk_eq (kd : Kd) : (if decide (V.str kd.str = V.str "text") = true then (1 : Int) else 0) = ((jk kd : Nat) : Int) := by
  cases kd with
  | text => rw [if_pos (by decide +kernel)]; rfl
  | number => rw [if_neg (by decide +kernel)]; rfl
  | flag => rw [if_neg (by decide +kernel)]; rfl
section
variable {P : Program} {w : World} {K : PySem.W.Frag} {mg : Str → Option Value} {base : Heap} {k : Nat}
abbrev st_law_call : Stmt := (topS 46)
theorem sc_law_call : FnScope ["_law_pool_here", "_law_scope_here", "_law_kind", "_law_deep", "_law_many", "_law_inner", "_law_word", "_law_lists", "_law_maybe", "_law_way", "_law_names", "_law_form_here", "_law_k"] ["_law_pool_here", "_law_scope_here", "_law_kind", "_law_deep"] (defScope st_law_call) := ⟨rfl, rfl, rfl, by decide +kernel, rfl, by decide +kernel, by decide +kernel⟩
theorem ok_lcall (n : Nat) (T : Bi mg) (F : Df K mg "_law_call" ["_law_pool_here", "_law_scope_here", "_law_kind", "_law_deep"] st_law_call) (c_law_draw : Cl P w K mg base 1 "_law_draw" spDraw) (c_law_reads : Cl P w K mg base 1 "_law_reads" (spLReads K))
    (c_law_expr : Cl P w K mg base (2 * n + 2) "_law_expr" (spExpr K n)) : Cl P w K mg base (2 * n + 3) "_law_call" (spLCall K n) := by
  refine F.ok (k := 2 * n + 2) sc_law_call (fun vs H Q E h => ?_) (fun f cdv A outer s H vs Q E hr h => ?_)
  · obtain ⟨p, s, kd, d, ns, fs, rfl, _⟩ := h
    rfl
  obtain ⟨p, s, kd, d0, ns, fs, rfl, hd0, hdn, hp, hS, hO, q⟩ := h
  obtain ⟨d, rfl⟩ : ∃ d, d0 = d + 1 := ⟨d0 - 1, by omega⟩
  refine ⟨_, (pss_cons (ps_if (pt_cmpR op_in_seq (pv 2) (pe_lst (pa_cons pe_str (pa_cons pe_str pa_nil))) rfl) (pss_cons (ps_asg (pe_tup (pa_cons (pe_op op_add pe_int (pc c_law_draw hr (by omega) rfl (pa_cons (pv 0) (pa_cons pe_int pa_nil)))) (pa_cons (pe_ix ix_list (pe_lst (pa_cons pe_str (pa_cons pe_str pa_nil))) (pe_callTy call_int1 rfl T.int (by decide +kernel) (pa_cons (pe_cmpR op_eq (pv 2) pe_str (nomark _)) pa_nil)) (fun _ _ => rfl)) pa_nil))) (pg_tup rfl (pgs_cons (pg_name (i := 4) sc_law_call.nd rfl (Or.inl rfl)) (pgs_cons (pg_name (i := 5) sc_law_call.nd rfl (Or.inr rfl)) pgs_nil))))
      (pss_cons (ps_set (i := 6) sc_law_call.nd rfl (Or.inl rfl) (pe_ix ix_list (pe_lst (pa_cons pe_str (pa_cons pe_str pa_nil))) (pe_callTy call_int1 rfl T.int (by decide +kernel) (pa_cons (pe_cmpR op_eq (pv 2) pe_str (nomark _)) pa_nil)) (fun _ _ => rfl)))
      (pss_cons (ps_setLc (i := 7) (own := [("_law_names", 10), ("_law_form_here", 11)]) (g := gTup K 2 (gCons (gName 10) (gCons (gName 11) gNil))) (tt := tTest (tOp (rIn K false) (tOp (rIxT K) _ (tC (.int 0))) (tLst (tCons (tC (.str "list")) (tCons (tC (.str "keyed")) tNil)))))  rfl sc_law_call.nd rfl rfl (sw_true rfl rfl rfl (by decide +kernel)) (pi_list (pc c_law_reads hr (by omega) rfl (pa_cons (pv 1) pa_nil))) (blkOk_by (own := [("_law_names", 10), ("_law_form_here", 11)]) (N := ["_law_pool_here", "_law_scope_here", "_law_kind", "_law_deep", "_law_many", "_law_inner", "_law_word", "_law_lists", "_law_maybe", "_law_way", "_law_names", "_law_form_here", "_law_k"]) (sc := defScope st_law_call) (by decide +kernel)) (fun _ _ _ _ _ => (pg_tup rfl (pgs_cons (pg_name (i := 10) sc_law_call.nd rfl (Or.inl rfl)) (pgs_cons (pg_name (i := 11) sc_law_call.nd rfl (Or.inl rfl)) pgs_nil)))) (fun _ _ _ _ _ => (pts_one (pt_cmpR op_in_seq (pe_ix ix_tup (pv 11) pe_int (fun _ _ => rfl)) (pe_lst (pa_cons pe_str (pa_cons pe_str pa_nil))) rfl))) (fun _ _ _ _ _ => (pv 10)))
      (pss_cons (ps_if (PW.pt (pw_and (pt_cmpR op_eq (pv 2) pe_str (nomark _)) (pw_and (pt_cmpR (op_neD hr.units) (pv 7) (pe_lst pa_nil) (nomark _)) (pw_and1 (pt_cmpR op_eq (pv 4) pe_int (nomark _)))))) (pss_one (ps_ret (pe_tup (pa_cons pe_str (pa_cons pe_str (pa_cons (pe_tup (pa_cons (pe_tup (pa_cons pe_str (pa_cons (pe_ix ix_list (pv 7) (pc c_law_draw hr (by omega) rfl (pa_cons (pv 0) (pa_cons (pe_callB call_len_seq rfl T.len PySem.boot_len (pa_cons (pv 7) pa_nil)) pa_nil))) (fun _ _ => rfl)) pa_nil))) pa_nil)) pa_nil)))))) pss_nil)
      (pss_one (ps_ret (pe_tup (pa_cons pe_str (pa_cons (pv 6) (pa_cons (pe_callTy call_tuple_of rfl T.tup (by decide +kernel) (pa_cons (pe_lc (own := [("_law_k", 12)]) (g := gName 12) (tt := tYes) rfl sc_law_call.nd (pi_range1 rfl T.rng (pa_cons (pv 4) pa_nil)) (blkOk_by (own := [("_law_k", 12)]) (N := ["_law_pool_here", "_law_scope_here", "_law_kind", "_law_deep", "_law_many", "_law_inner", "_law_word", "_law_lists", "_law_maybe", "_law_way", "_law_names", "_law_form_here", "_law_k"]) (sc := defScope st_law_call) (by decide +kernel)) (fun _ _ _ _ _ => (pg_name (i := 12) sc_law_call.nd rfl (Or.inl rfl))) (fun _ _ _ _ _ => pts_nil) (fun _ _ _ _ _ => (pc c_law_expr hr (by omega) rfl (pa_cons (pv 0) (pa_cons (pv 1) (pa_cons (pv 5) (pa_cons (pe_op op_sub (pv 3) pe_int) pa_nil))))))) pa_nil)) pa_nil)))))))))) pss_nil)
      (pss_cons (ps_setLc (i := 8) (own := [("_law_names", 10), ("_law_form_here", 11)]) (g := gTup K 2 (gCons (gName 10) (gCons (gName 11) gNil))) (tt := tTest (tOp rEq (tOp (rIxT K) _ (tC (.int 0))) (tC (.str "optional"))))  rfl sc_law_call.nd rfl rfl (sw_true rfl rfl rfl (by decide +kernel)) (pi_list (pc c_law_reads hr (by omega) rfl (pa_cons (pv 1) pa_nil))) (blkOk_by (own := [("_law_names", 10), ("_law_form_here", 11)]) (N := ["_law_pool_here", "_law_scope_here", "_law_kind", "_law_deep", "_law_many", "_law_inner", "_law_word", "_law_lists", "_law_maybe", "_law_way", "_law_names", "_law_form_here", "_law_k"]) (sc := defScope st_law_call) (by decide +kernel)) (fun _ _ _ _ _ => (pg_tup rfl (pgs_cons (pg_name (i := 10) sc_law_call.nd rfl (Or.inl rfl)) (pgs_cons (pg_name (i := 11) sc_law_call.nd rfl (Or.inl rfl)) pgs_nil)))) (fun _ _ _ _ _ => (pts_one (pt_cmpR op_eq (pe_ix ix_tup (pv 11) pe_int (fun _ _ => rfl)) pe_str (nomark _)))) (fun _ _ _ _ _ => (pv 10)))
      (pss_cons (ps_set (i := 9) sc_law_call.nd rfl (Or.inl rfl) (pc c_law_draw hr (by omega) rfl (pa_cons (pv 0) (pa_cons pe_int pa_nil))))
      (pss_cons (ps_if (PW.pt (pw_and (pt_cmpR op_eq (pv 9) pe_int (nomark _)) (pw_and1 (pt_cmpR (op_neD hr.units) (pv 8) (pe_lst pa_nil) (nomark _))))) (pss_one (ps_ret (pe_tup (pa_cons pe_str (pa_cons pe_str (pa_cons (pe_tup (pa_cons (pe_tup (pa_cons pe_str (pa_cons (pe_ix ix_list (pv 8) (pc c_law_draw hr (by omega) rfl (pa_cons (pv 0) (pa_cons (pe_callB call_len_seq rfl T.len PySem.boot_len (pa_cons (pv 8) pa_nil)) pa_nil))) (fun _ _ => rfl)) pa_nil))) pa_nil)) pa_nil)))))) pss_nil)
      (pss_cons (ps_if (pt_cmpR op_eq (pv 9) pe_int (nomark _)) (pss_one (ps_ret (pe_tup (pa_cons pe_str (pa_cons pe_str (pa_cons (pe_tup (pa_cons (pc c_law_expr hr (by omega) rfl (pa_cons (pv 0) (pa_cons (pv 1) (pa_cons pe_str (pa_cons (pe_op op_sub (pv 3) pe_int) pa_nil))))) pa_nil)) pa_nil)))))) pss_nil)
      (pss_cons (ps_set (i := 6) sc_law_call.nd rfl (Or.inl rfl) (pe_ix ix_list (pe_lst (pa_cons pe_str (pa_cons pe_str (pa_cons pe_str (pa_cons pe_str (pa_cons pe_str pa_nil)))))) (pv 9) (fun _ _ => rfl)))
      (pss_cons (ps_set (i := 5) sc_law_call.nd rfl (Or.inr rfl) (pe_ix ix_list (pe_lst (pa_cons (pe_ix ix_list (pe_lst (pa_cons pe_str (pa_cons pe_str (pa_cons pe_str pa_nil)))) (pc c_law_draw hr (by omega) rfl (pa_cons (pv 0) (pa_cons pe_int pa_nil))) (fun _ _ => rfl)) (pa_cons pe_str (pa_cons pe_str (pa_cons pe_str (pa_cons pe_str pa_nil)))))) (pv 9) (fun _ _ => rfl)))
      (pss_one (ps_ret (pe_tup (pa_cons pe_str (pa_cons (pv 6) (pa_cons (pe_callTy call_tuple_of rfl T.tup (by decide +kernel) (pa_cons (pe_lc (own := [("_law_k", 12)]) (g := gName 12) (tt := tYes) rfl sc_law_call.nd (pi_range1 rfl T.rng (pa_cons pe_int pa_nil)) (blkOk_by (own := [("_law_k", 12)]) (N := ["_law_pool_here", "_law_scope_here", "_law_kind", "_law_deep", "_law_many", "_law_inner", "_law_word", "_law_lists", "_law_maybe", "_law_way", "_law_names", "_law_form_here", "_law_k"]) (sc := defScope st_law_call) (by decide +kernel)) (fun _ _ _ _ _ => (pg_name (i := 12) sc_law_call.nd rfl (Or.inl rfl))) (fun _ _ _ _ _ => pts_nil) (fun _ _ _ _ _ => (pc c_law_expr hr (by omega) rfl (pa_cons (pv 0) (pa_cons (pv 1) (pa_cons (pv 5) (pa_cons (pe_op op_sub (pv 3) pe_int) pa_nil))))))) pa_nil)) pa_nil))))))))))))), ?_⟩
  refine seq_if (if_cps (fun b H' => Ex H H' ∧ (b = true → kd ≠ .flag) ∧ (b = false → kd = .flag)) (fun C kk => ?_) (fun H1 g => ?_) (fun H1 g => ?_))
  · refine ⟨_, rfl, by show 2 ≤ sizeLine; decide, fun l hl => ⟨l, _, rfl, .inl (SqL.of upd_same), rfl, rfl, _, rfl, ?_⟩⟩
    have e := Ex.new (o := .lst [.str "text", .str "number"]) hl
    cases kd with
    | text => exact kk true _ ⟨e, (fun _ z => by cases z), (fun z => by cases z)⟩
    | number => exact kk true _ ⟨e, (fun _ z => by cases z), (fun z => by cases z)⟩
    | flag => exact kk false _ ⟨e, (fun z => by cases z), fun _ => rfl⟩
  · obtain ⟨eH, hnf, _⟩ := g
    have hnf := hnf rfl
    have pl1 := Pl.of_ex hp eH
    refine ⟨_, rfl, p, 3, rfl, pl1.pool, by decide, by decide, fun m0 H2 pl2 m1 m2 => ⟨_, _, rfl, rfl, by show 2 ≤ sizeLine; decide, fun l hl => ?_⟩⟩
    obtain ⟨m, rfl⟩ := Int.eq_ofNat_of_zero_le m1
    have e3 := Ex.new (o := .lst [.str "number", .str "text"]) hl
    have hjk : [V.str "number", V.str "text"][jk kd]? = some (.str kd.str) := by
      cases kd with
      | text => rfl
      | number => rfl
      | flag => exact absurd rfl hnf
    have hwk : [V.str "sum", V.str "joined"][jk kd]? = some (.str (wk kd).str) := by
      cases kd with
      | text => rfl
      | number => rfl
      | flag => exact absurd rfl hnf
    refine ⟨_, rfl, rfl, .inr ⟨_, rfl, l, _, _, .str kd.str, rfl, rfl, SqL.of upd_same, at_of (jk_eq kd) hjk, by show 2 ≤ sizeLine; decide, fun a ha => ?_⟩⟩
    have e4 := e3.trans (Ex.new (o := .tup [.int (1 + (m : Int)), .str kd.str]) ha)
    refine ⟨a, _, rfl, SqT.of upd_same, rfl, _, _, rfl, _, _, rfl, rfl, by show 2 ≤ sizeLine; decide, fun l2 hl2 => ?_⟩
    have e5 := e4.trans (Ex.new (o := .lst [.str "sum", .str "joined"]) hl2)
    refine ⟨_, rfl, rfl, .inr ⟨_, rfl, l2, _, _, .str (wk kd).str, rfl, rfl, SqL.of upd_same, at_of (jk_eq kd) hwk, ?_⟩⟩
    have pl5 := (pl1.trans pl2).ex e5
    dsimp only
    refine name_seq (fits_lc (s := 1) (fun f => f.isList = true) rfl (hS.im (pl5.im hp)) hO (fun _ _ => rfl) (fun _ _ => rfl) ?_ ?_)
    · intro H' f d x v C hw hd hf kk
      obtain ⟨a, xs, rfl, hT, hx0⟩ := hf.tagged
      refine ⟨_, rfl, a, xs, _, .str (tag f), rfl, rfl, hT, at_of (j := 0) rfl hx0, by show 2 ≤ sizeLine; decide, fun c hc => ⟨c, _, rfl, .inl (SqL.of upd_same), rfl, rfl, _, rfl, kk _ _ (Ex.new hc) fun e => ?_⟩⟩
      rw [← tag_list f]
      exact e
    intro D1 H6 xs1 L1 e6 hD1n hD1 hL1 hG1 hl1
    have pl6 := pl5.ex e6
    have np1 : D1 ≠ p := by
      obtain ⟨_, _, _, z, _⟩ := pl5.pool
      exact (ne_of_none z hD1n).symm
    refine name_if (if_cps (fun b H' => Ex H6 H' ∧ (b = true → kd = .number ∧ L1 ≠ [])) (fun C kk => ?_) (fun H7 g => ?_) (fun H7 g => ?_))
    · refine ans_str (b := decide (kd.str = "number")) rfl rfl _ ?_
      by_cases hk : kd.str = "number"
      · rw [decide_eq_true hk]
        refine iteT ?_
        have hkd : kd = .number := by
          cases kd with
          | text => exact absurd hk (by decide +kernel)
          | number => rfl
          | flag => exact absurd hk (by decide +kernel)
        refine test_ne (D := D1) rfl hD1 hL1 (fun pth h => (hG1 pth h).1.ok) fun H7 e7 => ?_
        cases L1 with
        | nil => exact kk false H7 ⟨e7, fun z => by cases z⟩
        | cons a r =>
          refine iteT ?_
          exact ⟨_, rfl, rfl, _, rfl, kk _ H7 ⟨e7, fun _ => ⟨hkd, by simp⟩⟩⟩
      · rw [decide_eq_false hk]
        exact kk false H6 ⟨Ex.refl _, fun z => by cases z⟩
    · obtain ⟨e7, g⟩ := g
      obtain ⟨rfl, hne⟩ := g rfl
      have pl7 := pl6.ex e7
      refine ret_call (get_one (i := 7) (p := p) (D := D1) rfl rfl pl7.pool (e7 _ _ hD1) np1 (hL1.im (Im.ex e7)) hne hl1 fun v H8 pth pl8 hm ht => ⟨by show 1 ≤ sizeLine; decide, fun a ha => ⟨by show 3 ≤ sizeLine; decide, fun b hb => ?_⟩⟩)
      obtain ⟨hpw, f, hlk, hgf⟩ := hG1 pth hm
      refine q _ (.call .size [.get pth]) _ ((pl7.trans pl8).ex ((Ex.new ha).trans (Ex.new hb))) (call1_at (wd := .size) ht ha hb) ⟨.size hlk hgf, ?_, fun m hm => ?_⟩
      · simp only [dep, deps]
        omega
      · simp only [rds, rdss, List.mem_append, List.mem_singleton, List.not_mem_nil, or_false] at hm
        rw [hm]
        exact hpw
    · have pl7 := pl6.ex g.1
      refine next_of ?_
      dsimp only
      refine ret_args (i := 6) rfl (args_tup (c := 12) (m := 1 + m) (p := p) (s := s) (kd := kd) rfl rfl rfl rfl (by decide) (by omega) (fun R r => ⟨_, rfl, ?_⟩) (show d < n by omega) pl7.pool (hS.im (pl7.im hp)) hO (fun _ => rfl) fun v ts H8 pl8 hts hl2 hk2 => ⟨by show 3 ≤ sizeLine; decide, fun b hb => ?_⟩)
      · rw [show ((1 + m : Nat) : Int) = 1 + (m : Int) by omega] at r
        exact r
      · have hne : ts ≠ [] := by
          rintro rfl
          simp at hl2
          omega
        refine q _ (.call (wk kd) ts) _ ((pl7.trans pl8).ex (Ex.new hb)) (calls_at hts hb) (tok_args hk2 ?_)
        cases kd with
        | text => exact .joined hne (by omega) fun t ht => (hk2 t ht).wt
        | number => exact .sum hne (by omega) fun t ht => (hk2 t ht).wt
        | flag => exact absurd rfl hnf
  · obtain ⟨eH, _, hf⟩ := g
    have hf := hf rfl
    subst hf
    have pl1 := Pl.of_ex hp eH
    refine next_of ?_
    dsimp only
    refine seq_asg (fits_lc (s := 1) (fun f => ∃ g, f = .opt g) rfl (hS.im (Im.ex eH)) hO (fun _ _ => rfl) (fun _ _ => rfl) ?_ ?_)
    · intro H' f d x v C hw hd hf kk
      obtain ⟨a, xs, rfl, hT, hx0⟩ := hf.tagged
      refine ⟨_, rfl, a, xs, _, .str (tag f), rfl, rfl, hT, at_of (j := 0) rfl hx0, rfl, _, rfl, kk _ _ (Ex.refl _) fun e => ?_⟩
      have e2 := V.str.inj (of_decide_eq_true e)
      have e3 := tag_opt f
      rw [decide_eq_true e2] at e3
      cases f <;> first | (exact ⟨_, rfl⟩) | (simp [isOpt] at e3)
    intro D1 H6 xs1 L1 e6 hD1n hD1 hL1 hG1 hl1
    have pl6 := pl1.ex e6
    have np1 : D1 ≠ p := by
      obtain ⟨_, _, _, z, _⟩ := pl1.pool
      exact (ne_of_none z hD1n).symm
    refine ⟨_, rfl, p, 5, rfl, pl6.pool, by decide, by decide, fun w0 H7 pl7 w1 w2 => ?_⟩
    obtain ⟨wy, rfl⟩ := Int.eq_ofNat_of_zero_le w1
    have pl7' := pl6.trans pl7
    have hD17 := pl7.keep _ _ np1 hD1
    have hL17 := hL1.im (pl7.im pl6.pool)
    dsimp only
    refine name_if (if_cps (fun b H' => Ex H7 H' ∧ (b = true → L1 ≠ [])) (fun C kk => ?_) (fun H8 g => ?_) (fun H8 g => ?_))
    · refine ⟨_, rfl, rfl, _, rfl, ?_⟩
      refine ite2 (fun _ => ?_) (fun _ => kk false H7 ⟨Ex.refl _, fun z => by cases z⟩)
      refine test_ne (D := D1) rfl hD17 hL17 (fun pth h => (hG1 pth h).1.ok) fun H8 e8 => ?_
      cases L1 with
      | nil => exact kk _ H8 ⟨e8, fun z => by cases z⟩
      | cons a r => exact kk _ H8 ⟨e8, fun _ => by simp⟩
    · have pl8 := pl7'.ex g.1
      refine ret_call (get_one (i := 8) (p := p) (D := D1) rfl rfl pl8.pool (g.1 _ _ hD17) np1 (hL17.im (Im.ex g.1)) (g.2 rfl) hl1 fun v H9 pth pl9 hm ht => ⟨by show 1 ≤ sizeLine; decide, fun a ha => ⟨by show 3 ≤ sizeLine; decide, fun b hb => ?_⟩⟩)
      obtain ⟨hpw, f, hlk, g, rfl⟩ := hG1 pth hm
      refine q _ (.call .has [.get pth]) _ ((pl8.trans pl9).ex ((Ex.new ha).trans (Ex.new hb))) (call1_at (wd := .has) ht ha hb) ⟨.has hlk, ?_, fun m hm => ?_⟩
      · simp only [dep, deps]
        omega
      · simp only [rds, rdss, List.mem_append, List.mem_singleton, List.not_mem_nil, or_false] at hm
        rw [hm]
        exact hpw
    have pl8 := pl7'.ex g.1
    refine next_of ?_
    dsimp only
    refine seq_if ?_
    refine ⟨_, rfl, rfl, _, rfl, ?_⟩
    refine ite2 (fun _ => ?_) (fun hn1 => ?_)
    · refine ret_call ⟨_, rfl, _, rfl, _, rfl, _, _, rfl, rfl, p, s, .flag, d, ns, fs, ?_, by omega, pl8.pool, hS.im (pl8.im hp), hO, fun v t H9 pl9 ht hk => ⟨by show 1 ≤ sizeLine; decide, fun a ha => ⟨by show 3 ≤ sizeLine; decide, fun b hb => ?_⟩⟩⟩
      · exact congrArg (fun z => [V.ref p, V.ref s, V.str "flag", V.int z]) (show ((d + 1 : Nat) : Int) - 1 = (d : Int) by omega)
      · refine q _ (.call .not [t]) _ ((pl8.trans pl9).ex ((Ex.new ha).trans (Ex.new hb))) (call1_at (wd := .not) ht ha hb) (tok_args (k2 := .flag) (fun u hu => ?_) (.not hk.wt))
        rw [List.mem_singleton.mp hu]
        exact hk
    have hw1 : wy ≠ 1 := by
      rintro rfl
      exact hn1 (by decide +kernel)
    refine next_of ?_
    dsimp only
    refine seq_asg ⟨by show 5 ≤ sizeLine; decide, fun l1 hl1' => ?_⟩
    have e9 := Ex.new (o := .lst [.str "equal", .str "", .str "less", .str "both", .str "either"]) hl1'
    have pl9 := pl8.ex e9
    obtain ⟨x6, hx6⟩ : ∃ x6 : Str, [V.str "equal", V.str "", V.str "less", V.str "both", V.str "either"][wy]? = some (.str x6) := by
      have hc : wy = 0 ∨ wy = 1 ∨ wy = 2 ∨ wy = 3 ∨ wy = 4 := by omega
      rcases hc with rfl | rfl | rfl | rfl | rfl <;> exact ⟨_, rfl⟩
    refine ⟨_, rfl, l1, _, _, .str x6, rfl, rfl, SqL.of upd_same, at_of rfl hx6, ?_⟩
    refine ⟨by show 3 ≤ sizeLine; decide, fun l2 hl2' => ?_⟩
    have e10 := Ex.new (o := .lst [.str "text", .str "number", .str "flag"]) hl2'
    have pl10 := pl9.ex e10
    have npl : l2 ≠ p := by
      obtain ⟨_, _, _, z, _⟩ := pl9.pool
      exact (ne_of_none z hl2').symm
    refine ⟨_, rfl, p, 3, rfl, pl10.pool, by decide, by decide, fun g0 H11 pl11 g1 g2 => ?_⟩
    obtain ⟨gg, rfl⟩ := Int.eq_ofNat_of_zero_le g1
    obtain ⟨kx, hkx⟩ : ∃ kx : Kd, [V.str "text", V.str "number", V.str "flag"][gg]? = some (.str kx.str) := by
      have hc : gg = 0 ∨ gg = 1 ∨ gg = 2 := by omega
      rcases hc with rfl | rfl | rfl
      · exact ⟨.text, rfl⟩
      · exact ⟨.number, rfl⟩
      · exact ⟨.flag, rfl⟩
    refine ⟨l2, _, _, .str kx.str, rfl, rfl, SqL.of (pl11.keep _ _ npl upd_same), at_of rfl hkx, by show 5 ≤ sizeLine; decide, fun l3 hl3' => ?_⟩
    have e12 := Ex.new (o := .lst [.str kx.str, .str "", .str "number", .str "flag", .str "flag"]) hl3'
    have pl12 := (pl10.trans pl11).ex e12
    obtain ⟨v6, k5, h6, h5, hwt⟩ : ∃ (v6 : Wd) (k5 : Kd), x6 = v6.str ∧ [V.str kx.str, V.str "", V.str "number", V.str "flag", V.str "flag"][wy]? = some (.str k5.str) ∧ ∀ x y, WT (fieldOf ns fs) k5 x → WT (fieldOf ns fs) k5 y → WT (fieldOf ns fs) .flag (.call v6 [x, y]) := by
      have hc : wy = 0 ∨ wy = 2 ∨ wy = 3 ∨ wy = 4 := by omega
      rcases hc with rfl | rfl | rfl | rfl
      · exact ⟨.equal, kx, (V.str.inj (Option.some.inj hx6)).symm, rfl, fun x y a b => .equal a b⟩
      · exact ⟨.less, .number, (V.str.inj (Option.some.inj hx6)).symm, rfl, fun x y a b => .less a b⟩
      · exact ⟨.both, .flag, (V.str.inj (Option.some.inj hx6)).symm, rfl, fun x y a b => .both a b⟩
      · exact ⟨.either, .flag, (V.str.inj (Option.some.inj hx6)).symm, rfl, fun x y a b => .either a b⟩
    subst h6
    refine ⟨_, rfl, l3, _, _, .str k5.str, rfl, rfl, SqL.of upd_same, at_of rfl h5, ?_⟩
    dsimp only
    refine ret_args (i := 6) rfl (args_tup (c := 12) (m := 2) (p := p) (s := s) (kd := k5) rfl rfl rfl rfl (by decide) (by omega) (fun R r => r) (show d < n by omega) pl12.pool (hS.im (pl12.im hp)) hO (fun _ => rfl) fun v ts H8 pl13 hts hl2 hk2 => ⟨by show 3 ≤ sizeLine; decide, fun b hb => ?_⟩)
    match ts, hl2 with
    | [x, y], _ => exact q _ (.call v6 [x, y]) _ ((pl12.trans pl13).ex (Ex.new hb)) (calls_at hts hb) (tok_args hk2 (hwt x y (hk2 x (by simp)).wt (hk2 y (by simp)).wt))
theorem expr_all (T : Bi mg) (F : Df K mg "_law_expr" ["_law_pool_here", "_law_scope_here", "_law_kind", "_law_deep"] st_law_expr) (FC : Df K mg "_law_call" ["_law_pool_here", "_law_scope_here", "_law_kind", "_law_deep"] st_law_call)
    (c_law_draw : Cl P w K mg base 1 "_law_draw" spDraw) (c_law_reads : Cl P w K mg base 1 "_law_reads" (spLReads K)) : ∀ n : Nat, Cl P w K mg base (2 * n + 2) "_law_expr" (spExpr K n)
  | 0 => expr_none F
  | n + 1 => ok_expr n T F c_law_draw c_law_reads (expr_all T F FC c_law_draw c_law_reads n) (ok_lcall n T FC c_law_draw c_law_reads (expr_all T F FC c_law_draw c_law_reads n))
end
end RT
/-! an expression is written -/
namespace RT
open PySem PySem.Spec PyProof.Rows L2 Evl
theorem WT.tree_ind {sc : Str → Option Fm} {M : Tree → Prop} (hg : ∀ ns, M (.get ns)) (ht : ∀ x, Quot x → M (.text x)) (hn : ∀ n : Int, (n = 0 ∨ n = 7 ∨ n = -12 ∨ n = 100000000000000) → M (.number n)) (hf : ∀ b, M (.flag b))
    (hc : ∀ v ts, ts ≠ [] → ts.length ≤ 3 → (∀ t ∈ ts, M t) → M (.call v ts)) {k : Kd} {t : Tree} (h : WT sc k t) : M t := by
  have two : ∀ {v : Wd} {x y : Tree}, M x → M y → M (.call v [x, y]) := fun hx hy => hc _ _ (by simp) (by simp) fun t ht => by
    rcases List.mem_cons.mp ht with e | e
    · rw [e]; exact hx
    · rw [List.mem_singleton.mp e]; exact hy
  have one : ∀ {v : Wd} {x : Tree}, M x → M (.call v [x]) := fun hx => hc _ _ (by simp) (by simp) fun t ht => by
    rw [List.mem_singleton.mp ht]; exact hx
  induction h with
  | get _ => exact hg _
  | text h => exact ht _ h
  | number h => exact hn _ h
  | flag b => exact hf b
  | orElse _ _ ih => exact two (hg _) ih
  | size _ _ => exact one (hg _)
  | sum h0 hl _ ih => exact hc _ _ h0 hl ih
  | joined h0 hl _ ih => exact hc _ _ h0 hl ih
  | has _ => exact one (hg _)
  | not _ ih => exact one ih
  | equal _ _ ih1 ih2 => exact two ih1 ih2
  | less _ _ ih1 ih2 => exact two ih1 ih2
  | both _ _ ih1 ih2 => exact two ih1 ih2
  | either _ _ ih1 ih2 => exact two ih1 ih2
/-- a tree that may be written -/
inductive Wr : Tree → Prop where
  | get (ns : List Str) : Wr (.get ns)
  | text (x : Str) : Wr (.text x)
  | number {n : Int} : n.natAbs.log2 < 1920 → Wr (.number n)
  | flag (b : Bool) : Wr (.flag b)
  | call {v : Wd} {ts : List Tree} : ts.length ≤ 3 → (∀ t ∈ ts, Wr t) → Wr (.call v ts)
theorem WT.wr {sc : Str → Option Fm} {k : Kd} {t : Tree} (h : WT sc k t) : Wr t :=
  h.tree_ind (fun ns => .get ns) (fun x _ => .text x) (fun n hn => .number (by rcases hn with rfl | rfl | rfl | rfl <;> decide +kernel)) (fun b => .flag b) (fun v ts _ hl ht => .call hl ht)
theorem txt_small {sc : Str → Option Fm} {ρ : Str → Option Th} (E : EnvFits sc ρ) {k : Kd} {t : Tree} (h : WT sc k t) (hd : dep t ≤ 10) (x : Str) (e : ev ρ t = some (.str x)) : x.length ≤ 16777216 := by
  obtain ⟨r, h1, h2⟩ := wt_val E h
  rw [e] at h1
  cases h1
  cases k with
  | text =>
    obtain ⟨y, e2, hy⟩ := h2
    cases e2
    have h3 := pow3_mono hd
    have h4 : (3 : Nat) ^ 10 = 59049 := by decide
    omega
  | number => obtain ⟨i, e2⟩ := h2; cases e2
  | flag => obtain ⟨i, e2⟩ := h2; cases e2
theorem WT.okT {sc : Str → Option Fm} {ρ : Str → Option Th} (E : EnvFits sc ρ) {k : Kd} {t : Tree} (h : WT sc k t) : dep t ≤ 10 → OkT ρ t := by
  have step : ∀ {k : Kd} {v : Wd} {ts : List Tree}, WT sc k (.call v ts) → ts.length ≤ 3 → dep (.call v ts) ≤ 10 → (∀ t ∈ ts, dep t ≤ 10 → OkT ρ t) → OkT ρ (.call v ts) := fun {k v ts} hw hl hd ih =>
    .call (fun t ht => ih t ht (by have := dep_le_deps ht; simp only [dep] at hd; omega)) (by omega) fun x e => txt_small E hw hd x e
  have two : ∀ {k : Kd} {v : Wd} {x y : Tree}, WT sc k (.call v [x, y]) → (dep x ≤ 10 → OkT ρ x) → (dep y ≤ 10 → OkT ρ y) → dep (.call v [x, y]) ≤ 10 → OkT ρ (.call v [x, y]) := fun hw hx hy hd => step hw (by simp) hd fun t ht => by
    rcases List.mem_cons.mp ht with e | e
    · rw [e]; exact hx
    · rw [List.mem_singleton.mp e]; exact hy
  have one : ∀ {k : Kd} {v : Wd} {x : Tree}, WT sc k (.call v [x]) → (dep x ≤ 10 → OkT ρ x) → dep (.call v [x]) ≤ 10 → OkT ρ (.call v [x]) := fun hw hx hd => step hw (by simp) hd fun t ht => by
    rw [List.mem_singleton.mp ht]; exact hx
  induction h with
  | get _ => exact fun _ => .get _
  | text _ => exact fun _ => .text _
  | number _ => exact fun _ => .number _
  | flag b => exact fun _ => .flag b
  | orElse h1 h2 ih => exact two (.orElse h1 h2) (fun _ => .get _) ih
  | size h1 h2 => exact one (.size h1 h2) fun _ => .get _
  | sum h0 hl h ih => exact fun hd => step (.sum h0 hl h) hl hd ih
  | joined h0 hl h ih => exact fun hd => step (.joined h0 hl h) hl hd ih
  | has h1 => exact one (.has h1) fun _ => .get _
  | not h ih => exact one (.not h) ih
  | equal h1 h2 ih1 ih2 => exact two (.equal h1 h2) ih1 ih2
  | less h1 h2 ih1 ih2 => exact two (.less h1 h2) ih1 ih2
  | both h1 h2 ih1 ih2 => exact two (.both h1 h2) ih1 ih2
  | either h1 h2 ih1 ih2 => exact two (.either h1 h2) ih1 ih2
theorem join_codes (sep : List Nat) (ls : List (List Nat)) : Txt.join (S sep) (ls.map S) = S (TL.joinL sep ls) := SX.join_S sep ls
theorem joinL_get : ∀ (n : Str) (r : List Str), TL.joinL [46] ((n :: r).map tl) = tl n ++ tailD r
  | n, [] => by simp [TL.joinL, tailD]
  | n, m :: r => by
    have ih := joinL_get m r
    show tl n ++ ([46] ++ TL.joinL [46] ((m :: r).map tl)) = _
    rw [ih]
    simp [tailD]
theorem joinL_args : ∀ ts : List Tree, TL.joinL [44, 32] (ts.map cod) = argC ts
  | [] => rfl
  | [t] => by simp [TL.joinL, argC, argT]
  | t :: u :: r => by
    have ih := joinL_args (u :: r)
    show cod t ++ ([44, 32] ++ TL.joinL [44, 32] ((u :: r).map cod)) = _
    rw [ih]
    simp [argC, argT]
theorem cod_in : ∀ {ts : List Tree} {t : Tree}, t ∈ ts → (cod t).length ≤ (argC ts).length := by
  have hT : ∀ {ts : List Tree} {t : Tree}, t ∈ ts → (cod t).length ≤ (argT ts).length := by
    intro ts
    induction ts with
    | nil => intro t h; simp at h
    | cons u r ih =>
      intro t h
      simp only [argT, List.length_cons, List.length_append]
      rcases List.mem_cons.mp h with e | e
      · rw [e]; omega
      · have := ih e
        omega
  intro ts t h
  cases ts with
  | nil => simp at h
  | cons u r =>
    simp only [argC, List.length_append]
    rcases List.mem_cons.mp h with e | e
    · rw [e]; omega
    · have := hT e
      omega
section
variable {P : Program} {w : World} {K : PySem.W.Frag} {mg : Str → Option Value} {base : Heap} {k : Nat}
def spText (K : PySem.W.Frag) (n : Nat) : Sp := fun vs H Q _ => ∃ (u : V) (t : Tree), vs = [u] ∧ TrAt K H u t ∧ Wr t ∧ dep t ≤ n ∧ (cod t).length ≤ 100000 ∧ ∀ H', Ex H H' → Q (.str (S (cod t))) H'
abbrev st_law_expr_text : Stmt := (topS 47)
theorem sc_law_expr_text : FnScope ["_law_tree_here", "_law_each"] ["_law_tree_here"] (defScope st_law_expr_text) := ⟨rfl, rfl, rfl, by decide +kernel, rfl, by decide +kernel, by decide +kernel⟩
theorem text_none (F : Df K mg "_law_expr_text" ["_law_tree_here"] st_law_expr_text) : Cl P w K mg base 0 "_law_expr_text" (spText K 0) := by
  obtain ⟨f, fd, F, m, b⟩ := F.ex
  have no : ∀ vs H Q E, ¬ spText K 0 vs H Q E := fun vs H Q E h => by
    obtain ⟨u, t, _, _, _, h1, _⟩ := h
    have := dep_pos t
    omega
  exact ⟨f, fd, _, ⟨fun vs H Q E h => absurd h (no vs H Q E), fun A outer s H args us vs Q E _ _ _ _ h => absurd h (no vs H Q E)⟩, m, F.kp, b⟩
theorem ok_text (n : Nat) (T : Bi mg) (F : Df K mg "_law_expr_text" ["_law_tree_here"] st_law_expr_text) (c_law_expr_text : Cl P w K mg base n "_law_expr_text" (spText K n)) : Cl P w K mg base (n + 1) "_law_expr_text" (spText K (n + 1)) := by
  refine F.ok (k := n) sc_law_expr_text (fun vs H Q E h => ?_) (fun f cdv A outer s H vs Q E hr h => ?_)
  · obtain ⟨u, t, rfl, _⟩ := h
    rfl
  obtain ⟨u, t, rfl, hu, hwr, hd, hl, q⟩ := h
  refine ⟨_, (pss_cons (ps_if (pt_cmpR op_eq (pe_ix ix_tup (pv 0) pe_int (fun _ _ => rfl)) pe_str (nomark _)) (pss_one (ps_ret (pe_join pe_str (pe_ix ix_tup (pv 0) pe_int (fun _ _ => rfl))))) pss_nil)
      (pss_cons (ps_if (pt_cmpR op_eq (pe_ix ix_tup (pv 0) pe_int (fun _ _ => rfl)) pe_str (nomark _)) (pss_one (ps_ret (pe_op op_add_str (pe_op op_add_str pe_str (pe_ix ix_tup (pv 0) pe_int (fun _ _ => rfl))) pe_str))) pss_nil)
      (pss_cons (ps_if (pt_cmpR op_eq (pe_ix ix_tup (pv 0) pe_int (fun _ _ => rfl)) pe_str (nomark _)) (pss_one (ps_ret (pe_callTy call_str_int rfl T.str (by decide +kernel) (pa_cons (pe_ix ix_tup (pv 0) pe_int (fun _ _ => rfl)) pa_nil)))) pss_nil)
      (pss_cons (ps_if (pt_cmpR op_eq (pe_ix ix_tup (pv 0) pe_int (fun _ _ => rfl)) pe_str (nomark _)) (pss_one (ps_ret (pe_ifExp (pt_val (pe_ix ix_tup (pv 0) pe_int (fun _ _ => rfl))) pe_str pe_str))) pss_nil)
      (pss_one (ps_ret (pe_op op_add_str (pe_op op_add_str (pe_op op_add_str (pe_ix ix_tup (pv 0) pe_int (fun _ _ => rfl)) pe_str) (pe_join pe_str (pe_lc (own := [("_law_each", 1)]) (g := gName 1) (tt := tYes) rfl sc_law_expr_text.nd (pi_tup (pe_ix ix_tup (pv 0) pe_int (fun _ _ => rfl))) (blkOk_by (own := [("_law_each", 1)]) (N := ["_law_tree_here", "_law_each"]) (sc := defScope st_law_expr_text) (by decide +kernel)) (fun _ _ _ _ _ => (pg_name (i := 1) sc_law_expr_text.nd rfl (Or.inl rfl))) (fun _ _ _ _ _ => pts_nil) (fun _ _ _ _ _ => (pc c_law_expr_text hr (by omega) rfl (pa_cons (pv 1) pa_nil)))))) pe_str))))))), ?_⟩
  cases t with
  | get ns =>
    obtain ⟨a, xs, rfl, hT, hA⟩ := Dp.tupInv hu
    cases hA with
    | cons a1 hA =>
    cases hA with
    | cons a2 hA =>
    cases hA
    cases a1
    obtain ⟨b, ys, rfl, hT2, hA2⟩ := Dp.tupInv a2
    have hys := DpAll.strsInv hA2
    subst hys
    refine st_ifb (ans_tag (b := true) rfl hT rfl (by decide +kernel)) ?_
    refine iteT ?_
    refine ⟨⟨_, rfl⟩, val_tag (j := 1) rfl hT rfl _ ⟨_, b, ns, rfl, rfl, .inr hT2, ?_, ?_⟩⟩
    · have e : ∀ r : List Str, (tailD r).length = (r.map (·.length)).sum + r.length := by
        intro r
        induction r with
        | nil => rfl
        | cons x r ih =>
          unfold tailD at ih ⊢
          have : (tl x).length = x.length := rfl
          simp only [List.map_cons, List.flatten_cons, List.length_append, List.length_cons, List.sum_cons]
          omega
      rw [show (("." : Str)).length = 1 from rfl]
      cases ns with
      | nil => simp
      | cons m r =>
        have h1 := e r
        have : (tl m).length = m.length := rfl
        simp only [cod, getCodes, List.length_append] at hl
        simp only [List.map_cons, List.sum_cons, List.length_cons]
        omega
    · have e : Txt.join ("." : Str) ns = S (cod (.get ns)) := by
        have h := join_codes [46] (ns.map tl)
        rw [map_S_tl] at h
        rw [show ("." : Str) = S [46] from rfl, h]
        cases ns with
        | nil => simp [TL.joinL, cod, getCodes]
        | cons m r => rw [joinL_get]; simp [cod, getCodes]
      rw [e]
      exact q H (Ex.refl _)
  | text x =>
    obtain ⟨a, xs, rfl, hT, hA⟩ := Dp.tupInv hu
    cases hA with
    | cons a1 hA =>
    cases hA with
    | cons a2 hA =>
    cases hA
    cases a1
    cases a2
    refine st_ifb (ans_tag (b := false) rfl hT rfl (by decide +kernel)) ?_
    refine iteF ?_
    refine st_ifb (ans_tag (b := true) rfl hT rfl (by decide +kernel)) ?_
    refine iteT ?_
    have hx : x.length ≤ 100000 := by
      have : (tl x).length = x.length := rfl
      simp only [cod, List.length_cons, List.length_append] at hl
      omega
    have e1 : ("\"" : Str) ++ x = S (34 :: tl x) := by
      have := S_app [34] (tl x)
      rw [S_of] at this
      exact this
    have e2 : (("\"" : Str) ++ x) ++ ("\"" : Str) = S (cod (.text x)) := by
      rw [e1]
      have := S_app (34 :: tl x) [34]
      simp only [cod]
      exact this
    refine val_tag (j := 1) rfl hT rfl _ ⟨_, _, rfl, rfl, sz (by show 1 + x.length ≤ 100000; simp only [cod, List.length_cons, List.length_append] at hl; have : (tl x).length = x.length := rfl; omega), _, _, rfl, rfl, ?_, ?_⟩
    · rw [e1, S_len, List.length_cons]
      have : (tl x).length = x.length := rfl
      simp only [cod, List.length_cons, List.length_append, List.length_nil] at hl
      exact sz (by show (tl x).length + 1 + 1 ≤ 100000; omega)
    · rw [e2]
      exact q H (Ex.refl _)
  | number x =>
    obtain ⟨a, xs, rfl, hT, hA⟩ := Dp.tupInv hu
    cases hA with
    | cons a1 hA =>
    cases hA with
    | cons a2 hA =>
    cases hA
    cases a1
    cases a2
    refine st_ifb (ans_tag (b := false) rfl hT rfl (by decide +kernel)) ?_
    refine iteF ?_
    refine st_ifb (ans_tag (b := false) rfl hT rfl (by decide +kernel)) ?_
    refine iteF ?_
    refine st_ifb (ans_tag (b := true) rfl hT rfl (by decide +kernel)) ?_
    refine iteT ?_
    cases hwr with
    | number hz =>
    refine val_tag (j := 1) rfl hT rfl _ ⟨x, rfl, hz, ?_⟩
    have e : S (cod (.number x)) = Str.ofString (toString x) := by
      simp only [cod]
      exact S_of _
    have := q H (Ex.refl _)
    rw [e] at this
    exact this
  | flag x =>
    obtain ⟨a, xs, rfl, hT, hA⟩ := Dp.tupInv hu
    cases hA with
    | cons a1 hA =>
    cases hA with
    | cons a2 hA =>
    cases hA
    cases a1
    cases a2
    refine st_ifb (ans_tag (b := false) rfl hT rfl (by decide +kernel)) ?_
    refine iteF ?_
    refine st_ifb (ans_tag (b := false) rfl hT rfl (by decide +kernel)) ?_
    refine iteF ?_
    refine st_ifb (ans_tag (b := false) rfl hT rfl (by decide +kernel)) ?_
    refine iteF ?_
    refine st_ifb (ans_tag (b := true) rfl hT rfl (by decide +kernel)) ?_
    refine iteT ?_
    refine val_tag (j := 1) rfl hT rfl _ ⟨_, rfl, ?_⟩
    have := q H (Ex.refl _)
    simp only [cod] at this
    rw [S_of] at this
    cases x with
    | true => exact this
    | false => exact this
  | call wd ts =>
    obtain ⟨a, xs, rfl, hT, hA⟩ := Dp.tupInv hu
    cases hA with
    | cons a1 hA =>
    cases hA with
    | cons a2 hA =>
    cases hA with
    | cons a3 hA =>
    cases hA
    cases a1
    cases a2
    obtain ⟨b, ys, rfl, hT2, hA2⟩ := Dp.tupInv a3
    have hyl : ys.length = ts.length := by rw [DpAll.length hA2, tds_len]
    cases hwr with
    | call hl3 hwt =>
    have hcod : cod (.call wd ts) = tl wd.str ++ 40 :: (argC ts ++ [41]) := by simp only [cod]
    rw [hcod] at hl
    simp only [List.length_append, List.length_cons, List.length_nil] at hl
    have hsub : ∀ t ∈ ts, (cod t).length ≤ 100000 := fun t ht => by
      have := cod_in ht
      omega
    have hwl : wd.str.length = (tl wd.str).length := rfl
    refine st_ifb (ans_tag (b := false) rfl hT rfl (by decide +kernel)) ?_
    refine iteF ?_
    refine st_ifb (ans_tag (b := false) rfl hT rfl (by decide +kernel)) ?_
    refine iteF ?_
    refine st_ifb (ans_tag (b := false) rfl hT rfl (by decide +kernel)) ?_
    refine iteF ?_
    refine st_ifb (ans_tag (b := false) rfl hT rfl (by decide +kernel)) ?_
    refine iteF ?_
    have e1 : wd.str ++ ("(" : Str) = S (tl wd.str ++ [40]) := by
      have := S_app (tl wd.str) [40]
      rw [S_of] at this
      exact this
    refine val_tag (j := 1) rfl hT rfl _ ⟨_, _, rfl, rfl, sz (by show wd.str.length + 1 ≤ 100000; omega), ⟨_, rfl⟩, val_tag (j := 2) rfl hT rfl _ ⟨b, rfl, ⟨ys, hT2⟩, fun D hD => lc_gen (walk_tup (a := b) (xs := ys)) (fun H' => Ex H H') (fun i v _ => ∃ n, (ts.map fun t => S (cod t))[i]? = some n ∧ v = .str n) (Ex.new hD) (fun H' o e => e.mut hD) (fun H' e => (Im.ex e).sqT hT2)
      (fun i v H' H'' h _ => h) (szl (by omega)) ?_ ?_⟩⟩
    · rintro i x H' H'' C hi fr hacc ⟨rfl, hx⟩ kk
      obtain ⟨dd, hd1, hd2⟩ := DpAll.getV hA2 hx
      obtain ⟨ti, hti⟩ : ∃ ti, ts[i]? = some ti := ⟨_, List.getElem?_eq_getElem (by omega)⟩
      rw [tds_get hti] at hd1
      cases hd1
      have hmem := List.mem_of_getElem? hti
      have hdd : dep ti ≤ n := by
        have := dep_le_deps hmem
        simp only [dep] at hd
        omega
      exact ⟨rfl, _, rfl, x, ti, rfl, TrAt.im hd2 (Im.ex fr), hwt ti hmem, hdd, hsub ti hmem, fun H4 e4 => kk _ _ (fr.trans e4) (Im.ex e4) (ex_at e4 hacc) ⟨_, by rw [List.getElem?_map, hti]; rfl, rfl⟩⟩
    · intro H' acc fr hacc hal hall
      have e : acc = (ts.map fun t => S (cod t)).map V.str := strs_of (by rw [List.length_map]; omega) hall
      subst e
      have ej : Txt.join (", " : Str) (ts.map fun t => S (cod t)) = S (argC ts) := by
        have h := join_codes [44, 32] (ts.map cod)
        rw [joinL_args, List.map_map] at h
        exact h
      refine ⟨_, D, _, rfl, rfl, .inl (SqL.of hacc), ?_, _, _, rfl, rfl, ?_, _, _, rfl, rfl, ?_, ?_⟩
      · have h1 := sum_le (n := 100000) (l := ts.map fun t => S (cod t)) fun x hx => by
          obtain ⟨t, ht, rfl⟩ := List.mem_map.mp hx
          rw [S_len]
          exact hsub t ht
        rw [List.length_map] at h1 ⊢
        rw [show ((", " : Str)).length = 2 from rfl]
        omega
      · rw [ej, S_len, e1, S_len, List.length_append]
        exact sz (by simp only [List.length_cons, List.length_nil]; omega)
      · rw [ej, e1, S_app, S_len]
        exact sz (by show _ + 1 ≤ 100000; simp only [List.length_append, List.length_cons, List.length_nil]; omega)
      · rw [ej, e1, S_app (tl wd.str ++ [40]) (argC ts)]
        have e3 : S (tl wd.str ++ [40] ++ argC ts) ++ (")" : Str) = S (cod (.call wd ts)) := by
          have := S_app (tl wd.str ++ [40] ++ argC ts) [41]
          rw [hcod]
          rw [show tl wd.str ++ 40 :: (argC ts ++ [41]) = tl wd.str ++ [40] ++ argC ts ++ [41] by simp]
          exact this
        rw [e3]
        exact q H' fr
theorem text_all (T : Bi mg) (F : Df K mg "_law_expr_text" ["_law_tree_here"] st_law_expr_text) : ∀ n : Nat, Cl P w K mg base n "_law_expr_text" (spText K n)
  | 0 => text_none F
  | n + 1 => ok_text n T F (text_all T F n)
end
end RT
/-! fields, scopes, things -/
namespace RT
open PySem PySem.Spec PyProof.Rows L2 Evl
section
variable {K : PySem.W.Frag} {H : Hp} {p : Addr} {v : V} {f : Fm}
theorem fm_leaf (hp : H p = none) (k : Kd) : FmAt K (upd H p (.tup [.str k.str])) (.ref p) k.fm := by
  cases k <;> (unfold FmAt; simp only [Kd.fm, pd]; exact Dp.new hp (.cons (.str _) .nil) rfl)
theorem fm_opt (hp : H p = none) (h : FmAt K H v f) : FmAt K (upd H p (.tup [.str "optional", v])) (.ref p) (.opt f) := by
  unfold FmAt
  simp only [pd]
  exact Dp.new hp (.cons (.str _) (.cons h .nil)) (by simp only [noLs, noL, noL_pd]; rfl)
theorem fm_list (hp : H p = none) (h : FmAt K H v f) : FmAt K (upd H p (.tup [.str "list", v])) (.ref p) (.list f) := by
  unfold FmAt
  simp only [pd]
  exact Dp.new hp (.cons (.str _) (.cons h .nil)) (by simp only [noLs, noL, noL_pd]; rfl)
theorem fm_keyed {k : Str} (hp : H p = none) (h : FmAt K H v f) : FmAt K (upd H p (.tup [.str "keyed", v, .str k])) (.ref p) (.keyed f k) := by
  unfold FmAt
  simp only [pd]
  exact Dp.new hp (.cons (.str _) (.cons h (.cons (.str _) .nil))) (by simp only [noLs, noL, noL_pd]; rfl)
theorem fld_new {n : Str} (hp : H p = none) (h : FmAt K H v f) : Dp K (upd H p (.tup [.str n, v])) (.ref p) (.tuple [.str n, pd f]) :=
  Dp.new hp (.cons (.str _) (.cons h .nil)) (by simp only [noLs, noL, noL_pd]; rfl)
theorem fm_row {q : Addr} {u1 u2 : V} {n1 n2 : Str} {f1 f2 : Fm} (hp : H p = none) (hq : (upd H p (.tup [u1, u2])) q = none) (h1 : Dp K H u1 (.tuple [.str n1, pd f1])) (h2 : Dp K H u2 (.tuple [.str n2, pd f2])) :
    FmAt K (upd (upd H p (.tup [u1, u2])) q (.tup [.str "record", .ref p])) (.ref q) (.rcd [n1, n2] [f1, f2]) := by
  have D5 := Dp.new hp (.cons h1 (.cons h2 .nil)) (by simp only [noLs, noL, noL_pd]; rfl)
  unfold FmAt
  simp only [pd, pds]
  exact Dp.new hq (.cons (.str "record") (.cons D5 .nil)) (by simp only [noLs, noL, noL_pd]; rfl)
end
def rowF : Fm := .rcd ["id", "name"] [.number, .text]
theorem wf_row : Wf 3 rowF := by
  refine .rcd rfl (by decide) (fun n hn => ?_) (by decide +kernel) (fun f hf => ?_)
  · simp only [List.mem_cons, List.not_mem_nil, or_false] at hn
    rcases hn with rfl | rfl <;> (show isNm _ = true; decide +kernel)
  · simp only [List.mem_cons, List.not_mem_nil, or_false] at hf
    rcases hf with rfl | rfl
    · exact .number _
    · exact .text _
section
variable {P : Program} {w : World} {K : PySem.W.Frag} {mg : Str → Option Value} {base : Heap} {k : Nat}
def spFields (K : PySem.W.Frag) : Sp := fun vs H Q _ => ∃ (p : Addr), vs = [.ref p] ∧ PoolAt H p ∧ ∀ v ns fs H', Pl p H H' → Dp K H' v (.tuple (pds ns fs)) → ScOk ns fs → Q v H'
abbrev st_law_fields : Stmt := (topS 48)
theorem sc_law_fields : FnScope ["_law_pool_here", "_law_words_here", "_law_inner", "_law_row", "_law_begin", "_law_k"] ["_law_pool_here"] (defScope st_law_fields) := ⟨rfl, rfl, rfl, by decide +kernel, rfl, by decide +kernel, by decide +kernel⟩
theorem ok_fields (T : Bi mg) (F : Df K mg "_law_fields" ["_law_pool_here"] st_law_fields) (c_law_draw : Cl P w K mg base 1 "_law_draw" spDraw) (c_law_words : Cl P w K mg base 2 "_law_words" spWords) (c_law_form : Cl P w K mg base 5 "_law_form" (spForm K 3)) :
    Cl P w K mg base 6 "_law_fields" (spFields K) := by
  refine F.ok (k := 5) sc_law_fields (fun vs H Q E h => ?_) (fun f cdv A outer s H vs Q E hr h => ?_)
  · obtain ⟨p, rfl, _⟩ := h
    rfl
  obtain ⟨p, rfl, hp, q⟩ := h
  refine ⟨_, (pss_cons (ps_set (i := 1) sc_law_fields.nd rfl (Or.inr rfl) (pe_callB cr_sortedS rfl T.srt (by decide +kernel) (pa_cons (pc c_law_words hr (by omega) rfl (pa_cons (pv 0) (pa_cons pe_int pa_nil))) pa_nil)))
      (pss_cons (ps_set (i := 2) sc_law_fields.nd rfl (Or.inr rfl) (pe_lst (pa_cons (pe_tup (pa_cons pe_str pa_nil)) (pa_cons (pe_tup (pa_cons pe_str pa_nil)) (pa_cons (pe_tup (pa_cons pe_str pa_nil)) (pa_cons (pe_tup (pa_cons pe_str (pa_cons (pe_tup (pa_cons pe_str pa_nil)) pa_nil))) (pa_cons (pe_tup (pa_cons pe_str (pa_cons (pe_tup (pa_cons pe_str pa_nil)) pa_nil))) pa_nil)))))))
      (pss_cons (ps_set (i := 3) sc_law_fields.nd rfl (Or.inl rfl) (pe_tup (pa_cons pe_str (pa_cons (pe_tup (pa_cons (pe_tup (pa_cons pe_str (pa_cons (pe_tup (pa_cons pe_str pa_nil)) pa_nil))) (pa_cons (pe_tup (pa_cons pe_str (pa_cons (pe_tup (pa_cons pe_str pa_nil)) pa_nil))) pa_nil))) pa_nil))))
      (pss_cons (ps_set (i := 2) sc_law_fields.nd rfl (Or.inr rfl) (pe_op op_cat (pv 2) (pe_lst (pa_cons (pe_tup (pa_cons pe_str (pa_cons (pv 3) (pa_cons pe_str pa_nil)))) (pa_cons (pc c_law_form hr (by omega) rfl (pa_cons (pv 0) (pa_cons pe_int pa_nil))) pa_nil)))))
      (pss_cons (ps_set (i := 4) sc_law_fields.nd rfl (Or.inr rfl) (pc c_law_draw hr (by omega) rfl (pa_cons (pv 0) (pa_cons pe_int pa_nil))))
      (pss_one (ps_ret (pe_callTy call_tuple_of rfl T.tup (by decide +kernel) (pa_cons (pe_lc (own := [("_law_k", 5)]) (g := gName 5) (te := tTup (tCons (tOp (rIxL K) _ _) (tCons (tOp (rIxL K) _ _) tNil))) (tt := tYes) rfl sc_law_fields.nd (pi_range1 rfl T.rng (pa_cons pe_int pa_nil)) (blkOk_by (own := [("_law_k", 5)]) (N := ["_law_pool_here", "_law_words_here", "_law_inner", "_law_row", "_law_begin", "_law_k"]) (sc := defScope st_law_fields) (by decide +kernel)) (fun _ _ _ _ _ => (pg_name (i := 5) sc_law_fields.nd rfl (Or.inl rfl))) (fun _ _ _ _ _ => pts_nil) (fun _ _ _ _ _ => (pe_tup (pa_cons (pe_ix ix_list (pv 1) (pv 5) (fun _ _ => rfl)) (pa_cons (pe_ix ix_list (pv 2) (pe_op op_mod (pe_op op_add (pv 4) (pv 5)) pe_int) (fun _ _ => rfl)) pa_nil))))) pa_nil))))))))), ?_⟩
  refine ⟨_, rfl, p, 7, rfl, hp, by decide, fun D H1 ws pl1 _ hD hW => ⟨D, ws, rfl, SqL.of hD, by rw [hW.len]; decide, fun ys p5 hperm _ hp5 => ?_⟩⟩
  have hY := hW.perm hperm
  have pl2 := pl1.ex (Ex.new (o := .lst (ys.map V.str)) hp5)
  have np5 : p5 ≠ p := by
    obtain ⟨_, _, _, z, _⟩ := pl1.pool
    exact (ne_of_none z hp5).symm
  have h5 : (upd H1 p5 (.lst (ys.map V.str))) p5 = some (.lst (ys.map V.str)) := upd_same
  generalize upd H1 p5 (.lst (ys.map V.str)) = H2 at pl2 h5 ⊢
  refine ⟨by show 1 ≤ sizeLine; decide, fun a1 i1 => ⟨by show 1 ≤ sizeLine; decide, fun a2 i2 => ⟨by show 1 ≤ sizeLine; decide, fun a3 i3 => ⟨by show 1 ≤ sizeLine; decide, fun b4 j4 => ⟨by show 2 ≤ sizeLine; decide, fun a4 i4 => ⟨by show 1 ≤ sizeLine; decide, fun b5 j5 => ⟨by show 2 ≤ sizeLine; decide, fun a5 i5 => ⟨by show 5 ≤ sizeLine; decide, fun l1 k1 => ?_⟩⟩⟩⟩⟩⟩⟩⟩
  have F1 := fm_leaf (K := K) i1 .text
  have F2 := fm_leaf (K := K) i2 .flag
  have F3 := fm_leaf (K := K) i3 .number
  have F4 := fm_opt i4 (fm_leaf (K := K) j4 .text)
  have F5 := fm_list i5 (fm_leaf (K := K) j5 .text)
  have m2 := Im.new (o := .tup [.str "flag"]) i2
  have m3 := Im.new (o := .tup [.str "number"]) i3
  have m4 := (Im.new (o := .tup [.str "text"]) j4).trans (Im.new (o := .tup [.str "optional", .ref b4]) i4)
  have m5 := (Im.new (o := .tup [.str "text"]) j5).trans (Im.new (o := .tup [.str "list", .ref b5]) i5)
  have m6 := Im.new (o := .lst [.ref a1, .ref a2, .ref a3, .ref a4, .ref a5]) k1
  have X5 := m5.trans m6
  have X4 := m4.trans X5
  have X3 := m3.trans X4
  have X2 := m2.trans X3
  have eA : Ex H2 _ := (Ex.new (o := .tup [.str "text"]) i1).trans ((Ex.new (o := .tup [.str "flag"]) i2).trans ((Ex.new (o := .tup [.str "number"]) i3).trans ((Ex.new (o := .tup [.str "text"]) j4).trans ((Ex.new (o := .tup [.str "optional", .ref b4]) i4).trans ((Ex.new (o := .tup [.str "text"]) j5).trans ((Ex.new (o := .tup [.str "list", .ref b5]) i5).trans (Ex.new (o := .lst [.ref a1, .ref a2, .ref a3, .ref a4, .ref a5]) k1)))))))
  have G1 := F1.im X2
  have G2 := F2.im X3
  have G3 := F3.im X4
  have G4 := F4.im X5
  have G5 := F5.im m6
  have hl1 : (upd (upd (upd (upd (upd (upd (upd (upd H2 a1 (.tup [.str "text"])) a2 (.tup [.str "flag"])) a3 (.tup [.str "number"])) b4 (.tup [.str "text"])) a4 (.tup [.str "optional", .ref b4])) b5 (.tup [.str "text"])) a5 (.tup [.str "list", .ref b5])) l1 (.lst [.ref a1, .ref a2, .ref a3, .ref a4, .ref a5])) l1 = some (.lst [.ref a1, .ref a2, .ref a3, .ref a4, .ref a5]) := upd_same
  have pl3 := pl2.ex eA
  have h53 := eA _ _ h5
  have npl1 : l1 ≠ p := by
    obtain ⟨_, _, _, z, _⟩ := (pl2.ex ((Ex.new (o := .tup [.str "text"]) i1).trans ((Ex.new (o := .tup [.str "flag"]) i2).trans ((Ex.new (o := .tup [.str "number"]) i3).trans ((Ex.new (o := .tup [.str "text"]) j4).trans ((Ex.new (o := .tup [.str "optional", .ref b4]) i4).trans ((Ex.new (o := .tup [.str "text"]) j5).trans (Ex.new (o := .tup [.str "list", .ref b5]) i5)))))))).pool
    exact (ne_of_none z k1).symm
  clear F1 F2 F3 F4 F5 X2 X3 X4 X5 m2 m3 m4 m5 m6 eA
  generalize (upd (upd (upd (upd (upd (upd (upd (upd H2 a1 (.tup [.str "text"])) a2 (.tup [.str "flag"])) a3 (.tup [.str "number"])) b4 (.tup [.str "text"])) a4 (.tup [.str "optional", .ref b4])) b5 (.tup [.str "text"])) a5 (.tup [.str "list", .ref b5])) l1 (.lst [.ref a1, .ref a2, .ref a3, .ref a4, .ref a5])) = H3 at G1 G2 G3 G4 G5 hl1 pl3 h53 ⊢
  refine ⟨by show 1 ≤ sizeLine; decide, fun c1 q1 => ⟨by show 2 ≤ sizeLine; decide, fun c2 q2 => ⟨by show 1 ≤ sizeLine; decide, fun c3 q3 => ⟨by show 2 ≤ sizeLine; decide, fun c4 q4 => ⟨by show 2 ≤ sizeLine; decide, fun c5 q5 => ⟨by show 2 ≤ sizeLine; decide, fun c6 q6 => ?_⟩⟩⟩⟩⟩⟩
  have L1 := fld_new (n := "id") q2 (fm_leaf (K := K) q1 .number)
  have L2' := fld_new (n := "name") q4 (fm_leaf (K := K) q3 .text)
  have R6 := fm_row q5 q6 (Dp.im ((Im.new (o := .tup [.str "text"]) q3).trans (Im.new (o := .tup [.str "name", .ref c3]) q4)) (by simp only [noLs, noL, noL_pd]; rfl) L1) L2'
  have eB : Ex H3 _ := (Ex.new (o := .tup [.str "number"]) q1).trans ((Ex.new (o := .tup [.str "id", .ref c1]) q2).trans ((Ex.new (o := .tup [.str "text"]) q3).trans ((Ex.new (o := .tup [.str "name", .ref c3]) q4).trans ((Ex.new (o := .tup [.ref c2, .ref c4]) q5).trans (Ex.new (o := .tup [.str "record", .ref c5]) q6)))))
  have pl4 := pl3.ex eB
  have h54 := eB _ _ h53
  have hl14 := eB _ _ hl1
  have J1 := G1.im (Im.ex eB)
  have J2 := G2.im (Im.ex eB)
  have J3 := G3.im (Im.ex eB)
  have J4 := G4.im (Im.ex eB)
  have J5 := G5.im (Im.ex eB)
  clear L1 L2' G1 G2 G3 G4 G5 hl1 h53 eB
  generalize upd (upd (upd (upd (upd (upd H3 c1 (.tup [.str "number"])) c2 (.tup [.str "id", .ref c1])) c3 (.tup [.str "text"])) c4 (.tup [.str "name", .ref c3])) c5 (.tup [.ref c2, .ref c4])) c6 (.tup [.str "record", .ref c5]) = H4 at R6 pl4 h54 hl14 J1 J2 J3 J4 J5 ⊢
  refine ⟨_, rfl, _, rfl, by show 3 ≤ sizeLine; decide, fun a6 i6 => ?_⟩
  have F6 := fm_keyed (k := "id") i6 R6
  have pl5 := pl4.ex (Ex.new (o := .tup [.str "keyed", .ref c6, .str "id"]) i6)
  refine ⟨_, rfl, p, 2, rfl, by decide, pl5.pool, fun v ff H6 pl6 hff hwf => ⟨by show 2 ≤ sizeLine; decide, fun l2 k2 => ?_⟩⟩
  have mA := (Im.new (o := .tup [.str "keyed", .ref c6, .str "id"]) i6).trans (pl6.im pl5.pool)
  have hl16 : H6 l1 = some (.lst [.ref a1, .ref a2, .ref a3, .ref a4, .ref a5]) := pl6.keep _ _ npl1 ((Ex.new i6) _ _ hl14)
  have h56 : H6 p5 = some (.lst (ys.map V.str)) := pl6.keep _ _ np5 ((Ex.new i6) _ _ h54)
  have n12 : l1 ≠ l2 := ne_of_none hl16 k2
  refine ⟨l1, l2, _, _, rfl, rfl, (by rw [upd_ne n12]; exact hl16), upd_same, by show 5 + 2 ≤ sizeLine; decide, fun l3 k3 => ?_⟩
  have eC := (Ex.new (o := .lst [.ref a6, v]) k2).trans (Ex.new (o := .lst [.ref a1, .ref a2, .ref a3, .ref a4, .ref a5, .ref a6, v]) k3)
  have pl7 := (pl5.trans pl6).ex eC
  have mB := mA.trans (Im.ex eC)
  have Z1 := J1.im mB
  have Z2 := J2.im mB
  have Z3 := J3.im mB
  have Z4 := J4.im mB
  have Z5 := J5.im mB
  have Z6 := F6.im ((pl6.im pl5.pool).trans (Im.ex eC))
  have Z7 := hff.im (Im.ex eC)
  have h57 := eC _ _ h56
  have npl3 : l3 ≠ p := by
    obtain ⟨_, _, _, z, _⟩ := ((pl5.trans pl6).ex (Ex.new (o := .lst [.ref a6, v]) k2)).pool
    exact (ne_of_none z k3).symm
  have hl3 : (upd (upd H6 l2 (.lst [.ref a6, v])) l3 (.lst [.ref a1, .ref a2, .ref a3, .ref a4, .ref a5, .ref a6, v])) l3 = some (.lst [.ref a1, .ref a2, .ref a3, .ref a4, .ref a5, .ref a6, v]) := upd_same
  refine ⟨_, rfl, p, 7, rfl, pl7.pool, by decide, by decide, fun bg H8 pl8 b0 b1 => ?_⟩
  obtain ⟨bb, rfl⟩ := Int.eq_ofNat_of_zero_le b0
  have h58 := pl8.keep _ _ np5 h57
  have hl38 := pl8.keep _ _ npl3 hl3
  have m8 := pl8.im pl7.pool
  have pick : ∀ j < 7, ∃ (u : V) (g : Fm), [V.ref a1, .ref a2, .ref a3, .ref a4, .ref a5, .ref a6, v][j]? = some u ∧ Wf 4 g ∧ FmAt K H8 u g := by
    intro j hj
    have hc : j = 0 ∨ j = 1 ∨ j = 2 ∨ j = 3 ∨ j = 4 ∨ j = 5 ∨ j = 6 := by omega
    rcases hc with rfl | rfl | rfl | rfl | rfl | rfl | rfl
    · exact ⟨_, _, rfl, .text _, Z1.im m8⟩
    · exact ⟨_, _, rfl, .flag _, Z2.im m8⟩
    · exact ⟨_, _, rfl, .number _, Z3.im m8⟩
    · exact ⟨_, _, rfl, .opt (.text _) rfl, Z4.im m8⟩
    · exact ⟨_, _, rfl, .list (.text 3), Z5.im m8⟩
    · exact ⟨_, _, rfl, .keyed wf_row (.inr rfl), Z6.im m8⟩
    · exact ⟨_, _, rfl, hwf, Z7.im m8⟩
  have pl9 := pl7.trans pl8
  have hyl := hY.len
  refine ⟨_, rfl, by decide, by decide, fun D2 hD2 => lc_gen (walk_range (n := 7)) (fun H' => Ex H8 H') (fun i v H' => ∃ n f, ys[i]? = some n ∧ Wf 4 f ∧ Dp K H' v (.tuple [.str n, pd f])) (Ex.new hD2) (fun H' o e => e.mut hD2) (fun H' e => trivial)
    (fun i v H' H'' h m => let ⟨n, f, x1, x2, x3⟩ := h; ⟨n, f, x1, x2, Dp.im m (by simp only [noL, noLs, noL_pd]; rfl) x3⟩) (szl (by decide)) ?_ ?_⟩
  · rintro i x H' H'' C hi fr hacc ⟨rfl, rfl⟩ kk
    obtain ⟨n, hn⟩ : ∃ n, ys[i]? = some n := ⟨_, List.getElem?_eq_getElem (by omega)⟩
    obtain ⟨u, g, hu, hg, hug⟩ := pick ((bb + i) % 7) (Nat.mod_lt _ (by decide))
    refine ⟨rfl, _, rfl, _, rfl, p5, _, _, .str n, rfl, rfl, SqL.of (fr _ _ h58), at_of (j := i) (by omega) (by rw [List.getElem?_map, hn]; rfl), _, rfl, _, rfl, _, rfl, _, _, rfl, rfl, _, _, rfl, rfl, by show (0 : Int) < 7; decide, l3, _, _, u, rfl, rfl, SqL.of (fr _ _ hl38), at_of (j := (bb + i) % 7) (by show ((bb : Int) + (0 + (i : Int))) % 7 = _; omega) hu, by show 2 ≤ sizeLine; decide, fun a ha => ?_⟩
    have ea := Ex.new (o := .tup [.str n, u]) ha
    exact kk _ _ (fr.trans ea) (Im.ex ea) (ex_at ea hacc) ⟨n, g, hn, hg, fld_new ha (hug.im (Im.ex fr))⟩
  · intro H9 acc fr hacc hl hall
    obtain ⟨fs, hfl, hfw, hfd⟩ := flds_of (by omega) hall
    refine ⟨D2, acc, rfl, .inl ⟨SqL.of hacc, fun l hl => ?_⟩⟩
    exact q _ ys fs _ (pl9.ex (fr.trans (Ex.new hl))) (Dp.new hl hfd (noL_pds _ _)) ⟨hY, by omega, hfw⟩
end
end RT
/-! scopes and environments are made and read -/
namespace RT
open PySem PySem.Spec PyProof.Rows L2 Evl
/-- a dict of forms by their words, not frozen -/
def DfAt (K : PySem.W.Frag) (H : Hp) (a : Addr) (ns : List Str) (fs : List Fm) : Prop := ∃ kvs, H a = some (.dK kvs) ∧ kvs.map (·.1) = ns.map Sum.inr ∧ kvs.length = fs.length ∧ ∀ (i : Nat) (v : V) (f : Fm), (kvs.map (·.2))[i]? = some v → fs[i]? = some f → FmAt K H v f
theorem DfAt.put {K : PySem.W.Frag} {H : Hp} {a : Addr} {ns : List Str} {fs : List Fm} {n : Str} {v : V} {f : Fm} (h : DfAt K H a ns fs) (hn : n ∉ ns) (hv : FmAt K H v f) :
    ∃ kvs, H a = some (.dK kvs) ∧ kvs.length = ns.length ∧ DfAt K (upd H a (.dK (putK kvs (Sum.inr n) v))) a (ns ++ [n]) (fs ++ [f]) := by
  obtain ⟨kvs, h1, h2, h3, h4⟩ := h
  have hl : kvs.length = ns.length := by simpa using congrArg List.length h2
  have hnone : valV kvs (Sum.inr n) = none := by
    rw [valV_field h2]
    cases e : fieldOf ns (kvs.map (·.2)) n with
    | none => rfl
    | some x =>
      obtain ⟨i, e1, _⟩ := field_at e
      exact absurd (List.mem_of_getElem? e1) hn
  have im : Im H (upd H a (.dK (putK kvs (Sum.inr n) v))) := Im.dK h1
  refine ⟨kvs, h1, hl, _, upd_same, ?_, ?_, ?_⟩
  · rw [putK_new v hnone, List.map_append, h2, List.map_append]
    rfl
  · rw [putK_new v hnone, List.length_append, List.length_append, h3]
    rfl
  · intro i u s hu hs
    rw [putK_new v hnone, List.map_append] at hu
    by_cases hi : i < kvs.length
    · rw [List.getElem?_append_left (by simpa using hi)] at hu
      rw [List.getElem?_append_left (by omega)] at hs
      exact (h4 i u s hu hs).im im
    · rw [List.getElem?_append_right (by simp; omega), List.length_map] at hu
      rw [List.getElem?_append_right (by omega), ← h3] at hs
      have h0 : i - kvs.length = 0 := by
        cases q : i - kvs.length with
        | zero => rfl
        | succ k => rw [q] at hs; simp at hs
      rw [h0] at hu hs
      simp at hu hs
      subst hu hs
      exact hv.im im
theorem DfAt.frz {K : PySem.W.Frag} {H : Hp} {a : Addr} {ns : List Str} {fs : List Fm} {Q : Hp → Prop} (h : DfAt K H a ns fs) (q : ∀ H', Im H H' → (∀ b, b ≠ a → H' b = H b) → ScAt K H' a ns fs → Q H') : FrzTo Q H := by
  obtain ⟨kvs, h1, h2, h3, h4⟩ := h
  refine .step h1 fun od => .done ?_
  have im : Im H (upd H a (.frz od (.dK kvs))) := Im.dK h1
  exact q _ im (fun b hb => upd_ne hb) ⟨od, kvs, upd_same, h2, h3, fun i v f x y => (h4 i v f x y).im im⟩
theorem DcAt.env {H : Hp} {a : Addr} {ns : List Str} {ts : List Th} (h : DcAt H a ns ts) : EnvAt H a (fieldOf ns ts) := by
  obtain ⟨kvs, h1, h2, h3, h4⟩ := h
  refine ⟨kvs, .inl h1, fun n t hn => ?_⟩
  obtain ⟨i, v, e1, e2, e3⟩ := field_some (ys := kvs.map (·.2)) hn (by simpa using h3)
  exact ⟨v, by rw [valV_field h2]; exact e1, h4 i v t e3 e2⟩
theorem ThAt.env {H : Hp} {a : Addr} {ns : List Str} {ts : List Th} (h : ThAt H (.ref a) (.rcd ns ts)) : EnvAt H a (fieldOf ns ts) := by
  cases h with
  | @rcd _ o kvs _ _ h1 h2 h3 h4 =>
    refine ⟨kvs, .inr ⟨o, h1⟩, fun n t hn => ?_⟩
    obtain ⟨i, v, e1, e2, e3⟩ := field_some (ys := kvs.map (·.2)) hn (by simpa using h3)
    exact ⟨v, by rw [valV_field h2]; exact e1, h4 i v t e3 e2⟩
theorem take_not {α : Type} {ns : List α} {i : Nat} {m : α} (hnd : ns.Nodup) (hm : ns[i]? = some m) : m ∉ ns.take i := by
  intro h
  obtain ⟨j, hj⟩ := List.mem_iff_getElem?.mp h
  rw [List.getElem?_take] at hj
  by_cases hji : j < i
  · rw [if_pos hji] at hj
    have := nodup_at hnd hj hm
    omega
  · rw [if_neg hji] at hj
    cases hj
theorem take_snoc {α : Type} {l : List α} {i : Nat} {x : α} (h : l[i]? = some x) : l.take (i + 1) = l.take i ++ [x] := by
  rw [List.take_add_one, h]
  rfl
theorem fit_snoc {fs : List Fm} {ts : List Th} {f : Fm} {t : Th} {i : Nat} (hl : ts.length = i) (hg : fs[i]? = some f) (hf : Fits f t) (h : ∀ (j : Nat) f t, fs[j]? = some f → ts[j]? = some t → Fits f t) : ∀ (j : Nat) f' t', fs[j]? = some f' → (ts ++ [t])[j]? = some t' → Fits f' t' := by
  intro j f' t' hf' ht'
  by_cases hj : j < ts.length
  · rw [List.getElem?_append_left hj] at ht'
    exact h j f' t' hf' ht'
  · rw [List.getElem?_append_right (by omega)] at ht'
    have h0 : j - ts.length = 0 := by
      cases q : j - ts.length with
      | zero => rfl
      | succ k => rw [q] at ht'; simp at ht'
    rw [h0] at ht'
    simp at ht'
    subst ht'
    have hji : j = i := by omega
    subst hji
    rw [hg] at hf'
    cases hf'
    exact hf
section
variable {P : Program} {w : World} {K : PySem.W.Frag} {mg : Str → Option Value} {base : Heap} {k : Nat}
def spScope (K : PySem.W.Frag) : Sp := fun vs H Q _ => ∃ (u : V) (ns : List Str) (fs : List Fm), vs = [u] ∧ Dp K H u (.tuple (pds ns fs)) ∧ ScOk ns fs ∧ ∀ d H', Ex H H' → H d = none → DfAt K H' d ns fs → Q (.ref d) H'
abbrev st_law_scope : Stmt := (topS 49)
theorem sc_law_scope : FnScope ["_law_fields_here", "_law_scope_here", "_law_word", "_law_form_here"] ["_law_fields_here"] (defScope st_law_scope) := ⟨rfl, rfl, rfl, by decide +kernel, rfl, by decide +kernel, by decide +kernel⟩
theorem ok_scope (T : Bi mg) (F : Df K mg "_law_scope" ["_law_fields_here"] st_law_scope) : Cl P w K mg base 1 "_law_scope" (spScope K) := by
  refine F.ok (k := 0) sc_law_scope (fun vs H Q E h => ?_) (fun f cdv A outer s H vs Q E hr h => ?_)
  · obtain ⟨u, ns, fs, rfl, _⟩ := h
    rfl
  obtain ⟨u, ns, fs, rfl, hu, hO, q⟩ := h
  refine ⟨_, (pss_cons (ps_set (i := 1) sc_law_scope.nd rfl (Or.inl rfl) pe_dnewK)
      (pss_cons (ps_for PassesOwn.never rfl (pi_tup (pv 0)) (pg_tup rfl (pgs_cons (pg_name (i := 2) sc_law_scope.nd rfl (Or.inl rfl)) (pgs_cons (pg_name (i := 3) sc_law_scope.nd rfl (Or.inl rfl)) pgs_nil))) (pss_one (ps_dput (hu_of hr) (pv 1) (pv 2) (pv 3) rfl)))
      (pss_one (ps_ret (pv 1))))), ?_⟩
  obtain ⟨b, ys, rfl, hT2, hA2⟩ := Dp.tupInv hu
  have hnl := hO.w.len
  have hfl := hO.len
  have hyl : ys.length = ns.length := by rw [DpAll.length hA2, pds_len (by omega)]
  intro D hD
  have e0 : Ex H (upd H D (.dK [])) := Ex.new hD
  refine ⟨_, rfl, b, rfl, ⟨ys, (Im.ex e0).sqT hT2⟩, for_tup (K := K) (a := b) (xs := ys)
    (fun i σ H' => ∃ nm1 nm2, σ = [some (.ref b), some (.ref D), nm1, nm2] ∧ Ex H H' ∧ DfAt K H' D (ns.take i) (fs.take i))
    ⟨none, none, rfl, e0, [], upd_same, by simp, by simp, fun j v f h => by simp at h⟩ (fun i σ H' _ h => let ⟨_, _, _, h2, _⟩ := h; (Im.ex h2).sqT hT2) ?_ ?_⟩
  · rintro i x σ H' hx ⟨nm1, nm2, rfl, ex, hdc⟩
    have hin : i < ns.length := by have := (List.getElem?_eq_some_iff.mp hx).1; omega
    obtain ⟨m, hm⟩ : ∃ m, ns[i]? = some m := ⟨_, List.getElem?_eq_getElem hin⟩
    obtain ⟨g, hg⟩ : ∃ g, fs[i]? = some g := ⟨_, List.getElem?_eq_getElem (by omega)⟩
    obtain ⟨dd, hd1, hd2⟩ := DpAll.getV hA2 hx
    rw [pds_get hm hg] at hd1
    cases hd1
    obtain ⟨c, zs, rfl, hTc, hAc⟩ := Dp.tupInv hd2
    cases hAc with
    | cons c1 hAc =>
    cases hAc with
    | cons c2 hAc =>
    cases hAc
    cases c1
    rename_i vf
    refine ⟨c, _, rfl, (Im.ex ex).sqT hTc, rfl, _, _, rfl, _, _, rfl, rfl, ?_⟩
    obtain ⟨kvs, h1, hl, hdc4⟩ := hdc.put (take_not hO.w.nd hm) (Dp.im (Im.ex ex) (noL_pd g) c2)
    refine ⟨_, rfl, _, rfl, _, rfl, D, _, rfl, DPut.k (k := Sum.inr m) h1 (szl (by rw [hl, List.length_take]; omega)), ?_⟩
    exact ⟨_, _, rfl, ex.mut hD, by rw [take_snoc hm, take_snoc hg]; exact hdc4⟩
  · rintro σ H' ⟨nm1, nm2, rfl, ex, hdc⟩
    rw [List.take_of_length_le (by omega), List.take_of_length_le (by omega)] at hdc
    exact ⟨_, rfl, q D H' ex hD hdc⟩
def spThings (K : PySem.W.Frag) : Sp := fun vs H Q _ => ∃ (p : Addr) (u : V) (ns : List Str) (fs : List Fm), vs = [.ref p, u] ∧ PoolAt H p ∧ Dp K H u (.tuple (pds ns fs)) ∧ ScOk ns fs ∧
  ∀ d H' ts, Pl p H H' → H d = none → DcAt H' d ns ts → ts.length = 7 → (∀ (j : Nat) f t, fs[j]? = some f → ts[j]? = some t → Fits f t) → Q (.ref d) H'
abbrev st_law_things : Stmt := (topS 50)
theorem sc_law_things : FnScope ["_law_pool_here", "_law_fields_here", "_law_found", "_law_word", "_law_form_here"] ["_law_pool_here", "_law_fields_here"] (defScope st_law_things) := ⟨rfl, rfl, rfl, by decide +kernel, rfl, by decide +kernel, by decide +kernel⟩
theorem ok_things (T : Bi mg) (F : Df K mg "_law_things" ["_law_pool_here", "_law_fields_here"] st_law_things) (c_law_thing_of : Cl P w K mg base 12 "_law_thing_of" (spThing K 10)) : Cl P w K mg base 13 "_law_things" (spThings K) := by
  refine F.ok (k := 12) sc_law_things (fun vs H Q E h => ?_) (fun f cdv A outer s H vs Q E hr h => ?_)
  · obtain ⟨p, u, ns, fs, rfl, _⟩ := h
    rfl
  obtain ⟨p, u, ns, fs, rfl, hp, hu, hO, q⟩ := h
  refine ⟨_, (pss_cons (ps_set (i := 2) sc_law_things.nd rfl (Or.inl rfl) pe_dnewK)
      (pss_cons (ps_for PassesOwn.never rfl (pi_tup (pv 1)) (pg_tup rfl (pgs_cons (pg_name (i := 3) sc_law_things.nd rfl (Or.inl rfl)) (pgs_cons (pg_name (i := 4) sc_law_things.nd rfl (Or.inl rfl)) pgs_nil))) (pss_one (ps_dput (hu_of hr) (pv 2) (pv 3) (pe_frz (pc c_law_thing_of hr (by omega) rfl (pa_cons (pv 0) (pa_cons (pv 4) pa_nil)))) rfl)))
      (pss_one (ps_ret (pv 2))))), ?_⟩
  obtain ⟨b, ys, rfl, hT2, hA2⟩ := Dp.tupInv hu
  have hnl := hO.w.len
  have hfl := hO.len
  have hyl : ys.length = ns.length := by rw [DpAll.length hA2, pds_len (by omega)]
  intro D hD
  have e0 : Ex H (upd H D (.dK [])) := Ex.new hD
  have pl0 := Pl.of_ex hp e0
  have np : D ≠ p := by
    obtain ⟨_, _, _, z, _⟩ := hp
    exact (ne_of_none z hD).symm
  refine ⟨_, rfl, b, rfl, ⟨ys, (Im.ex e0).sqT hT2⟩, for_tup (K := K) (a := b) (xs := ys)
    (fun i σ H' => ∃ nm1 nm2 ts, σ = [some (.ref p), some (.ref b), some (.ref D), nm1, nm2] ∧ Pl p H H' ∧ ts.length = i ∧ (∀ (j : Nat) f t, fs[j]? = some f → ts[j]? = some t → Fits f t) ∧ DcAt H' D (ns.take i) ts)
    ⟨none, none, [], rfl, pl0, rfl, (fun j f t _ h => by simp at h), [], upd_same, rfl, rfl, fun j f t _ h => by simp at h⟩ (fun i σ H' _ h => let ⟨_, _, _, _, h2, _⟩ := h; (h2.im hp).sqT hT2) ?_ ?_⟩
  · rintro i x σ H' hx ⟨nm1, nm2, ts, rfl, pl, htl, hft, hdc⟩
    have hin : i < ns.length := by have := (List.getElem?_eq_some_iff.mp hx).1; omega
    obtain ⟨m, hm⟩ : ∃ m, ns[i]? = some m := ⟨_, List.getElem?_eq_getElem hin⟩
    obtain ⟨g, hg⟩ : ∃ g, fs[i]? = some g := ⟨_, List.getElem?_eq_getElem (by omega)⟩
    obtain ⟨dd, hd1, hd2⟩ := DpAll.getV hA2 hx
    rw [pds_get hm hg] at hd1
    cases hd1
    obtain ⟨c, zs, rfl, hTc, hAc⟩ := Dp.tupInv hd2
    cases hAc with
    | cons c1 hAc =>
    cases hAc with
    | cons c2 hAc =>
    cases hAc
    cases c1
    rename_i vf
    have hwg := hO.wf g (List.mem_of_getElem? hg)
    refine ⟨c, _, rfl, (pl.im hp).sqT hTc, rfl, _, _, rfl, _, _, rfl, rfl, ?_⟩
    refine ⟨_, rfl, _, rfl, p, vf, g, 4, rfl, pl.pool, Dp.im (pl.im hp) (noL_pd g) c2, hwg, by have := rank_lt (d := 4) (f := g); omega, fun v t H2 pl2 hf ho _ => ho.frz pl.pool pl2 fun H3 pl3 im3 ht => ?_⟩
    have hdc3 := hdc.keep pl.pool pl3
    obtain ⟨kvs, h1, hl, hdc4⟩ := hdc3.put (take_not hO.w.nd hm) ht
    refine ⟨_, rfl, _, rfl, D, _, rfl, DPut.k (k := Sum.inr m) h1 (szl (by rw [hl, List.length_take]; omega)), ?_⟩
    exact ⟨_, _, ts ++ [t], rfl, (pl.trans pl3).mut hp hD, by simp [htl], fit_snoc htl hg hf hft, by rw [take_snoc hm]; exact hdc4⟩
  · rintro σ H' ⟨nm1, nm2, ts, rfl, pl, htl, hft, hdc⟩
    rw [List.take_of_length_le (by omega)] at hdc
    exact ⟨_, rfl, q D H' ts pl hD hdc (by omega) hft⟩
abbrev st_law_at : Stmt := (topS 51)
theorem sc_law_at : FnScope ["_law_names", "_law_env", "_law_found", "_law_word"] ["_law_names", "_law_env"] (defScope st_law_at) := ⟨rfl, rfl, rfl, by decide +kernel, rfl, by decide +kernel, by decide +kernel⟩
theorem ok_at (F : Df K mg "_law_at" ["_law_names", "_law_env"] st_law_at) : Cl P w K mg base 1 "_law_at" (spValueAt K) := by
  refine F.ok (k := 0) sc_law_at (fun vs H Q E h => ?_) (fun f cdv A outer s H vs Q E hr h => ?_)
  · obtain ⟨u, d, ns, ρ, t, rfl, _⟩ := h
    rfl
  obtain ⟨u, d, ns, ρ, t, rfl, hn, he, hl, q⟩ := h
  refine ⟨_, (pss_cons (ps_set (i := 2) sc_law_at.nd rfl (Or.inl rfl) (pe_dget (hu_of hr) (pv 1) (pe_ix ix_tup (pv 0) pe_int (fun _ _ => rfl)) (fun _ _ => rfl)))
      (pss_cons (ps_for PassesOwn.never rfl (pi_tup (pe_slice sl_tupA (pv 0) (po_some pe_int) po_none)) (pg_name (i := 3) sc_law_at.nd rfl (Or.inl rfl)) (pss_one (ps_set (i := 2) sc_law_at.nd rfl (Or.inl rfl) (pe_dget (hu_of hr) (pv 2) (pv 3) (fun _ _ => rfl)))))
      (pss_one (ps_ret (pv 2))))), ?_⟩
  cases ns with
  | nil => simp [look] at hl
  | cons n r =>
    obtain ⟨a, xs, rfl, hT, hA⟩ := Dp.tupInv hn
    have ex : xs = V.str n :: r.map V.str := DpAll.strsInv (xs := n :: r) hA
    subst ex
    obtain ⟨kvs, hrd, hv⟩ := he
    simp only [look] at hl
    cases q0 : ρ n with
    | none => rw [q0] at hl; simp at hl
    | some t0 =>
      rw [q0] at hl
      have hl : pathT r t0 = some t := by simpa using hl
      obtain ⟨v0, h1, h2⟩ := hv n t0 q0
      refine ⟨_, rfl, _, rfl, a, _, 0, .str n, rfl, rfl, hT, at_of (j := 0) rfl rfl, d, v0, rfl, .inl ⟨kvs, Sum.inr n, hrd, rfl, h1.symm⟩, ?_⟩
      refine ⟨_, rfl, _, rfl, a, _, rfl, hT, fun z => absurd z not_whole, fun _ p hp => ?_⟩
      rw [cut1]
      have ex2 : Ex H (upd H p (.tup (r.map V.str))) := Ex.new hp
      refine ⟨p, rfl, ⟨_, SqT.of upd_same⟩, for_tup (K := K) (a := p) (xs := r.map V.str) (fun i σ H' => H' = upd H p (.tup (r.map V.str)) ∧ ∃ v nm ti, σ = [some (.ref a), some (.ref d), some v, nm] ∧ ThAt H' v ti ∧ pathT (r.drop i) ti = some t)
        ⟨rfl, v0, none, t0, rfl, h2.im (Im.ex ex2), by simpa using hl⟩ (fun i σ H' _ ⟨e, _⟩ => by rw [e]; exact SqT.of upd_same) ?_ ?_⟩
      · rintro i x σ H' hx ⟨rfl, v, nm, ti, rfl, hti, hp2⟩
        obtain ⟨m, hm, rfl⟩ : ∃ m, r[i]? = some m ∧ x = V.str m := by
          rw [List.getElem?_map] at hx
          cases e : r[i]? with
          | none => rw [e] at hx; cases hx
          | some m => rw [e] at hx; exact ⟨m, rfl, (Option.some.inj hx).symm⟩
        have ed : r.drop i = m :: r.drop (i + 1) := by
          obtain ⟨h5, h6⟩ := List.getElem?_eq_some_iff.mp hm
          rw [← h6]
          exact List.drop_eq_getElem_cons h5
        rw [ed] at hp2
        cases ti with
        | rcd ns' ts' =>
          simp only [pathT] at hp2
          cases q1 : fieldOf ns' ts' m with
          | none => rw [q1] at hp2; simp at hp2
          | some t1 =>
            rw [q1] at hp2
            obtain ⟨b, o, kvs1, v1, rfl, e1, e2, e3⟩ := hti.field q1
            exact ⟨_, rfl, _, rfl, b, v1, rfl, .inl ⟨kvs1, Sum.inr m, .inr ⟨o, e1⟩, rfl, e2.symm⟩, rfl, v1, _, t1, rfl, e3, by simpa using hp2⟩
        | _ => simp [pathT] at hp2
      · rintro σ H' ⟨rfl, v, nm, ti, rfl, hti, hp2⟩
        have e : ti = t := by
          rw [List.length_map, List.drop_length] at hp2
          simpa [pathT] using hp2
        subst e
        exact ⟨_, rfl, q v _ ex2 hti⟩
end
end RT
/-! environments mixed and cut -/
namespace RT
open PySem PySem.Spec PyProof.Rows L2 Evl
section
variable {P : Program} {w : World} {K : PySem.W.Frag} {mg : Str → Option Value} {base : Heap} {k : Nat} {C pV gV : Addr} {fdV : FuncData}
def spMixed (K : PySem.W.Frag) (C : Addr) (n : Nat) : Sp := fun vs H Q _ => ∃ (e : V) (d1 d2 : Addr) (t : Tree) (ns : List Str) (ts1 ts2 : List Th), vs = [e, .ref d1, .ref d2] ∧ ExAt K C H e t ∧ dep t ≤ n ∧ (∀ p ∈ rds t, PathOk p) ∧ (rds t).length ≤ 60 ∧
  ThAt H (.ref d1) (.rcd ns ts1) ∧ ThAt H (.ref d2) (.rcd ns ts2) ∧ ns.Nodup ∧ ns.length ≤ 60 ∧ ts1.length = ns.length ∧ ts2.length = ns.length ∧
  ∀ d H' tsm, Ex H H' → DcAt H' d ns tsm → (∀ p ∈ rds t, ∀ m, p.head? = some m → fieldOf ns tsm m = fieldOf ns ts1 m) → Q (.ref d) H'
abbrev st_law_mixed : Stmt := (topS 52)
theorem sc_law_mixed : FnScope ["_law_expression_here", "_law_first", "_law_second", "_law_found", "_law_word"] ["_law_expression_here", "_law_first", "_law_second"] (defScope st_law_mixed) := ⟨rfl, rfl, rfl, by decide +kernel, rfl, by decide +kernel, by decide +kernel⟩
theorem ok_mixed {n : Nat} (T : Bi mg) (F : Df K mg "_law_mixed" ["_law_expression_here", "_law_first", "_law_second"] st_law_mixed) (Z : Ec K mg C) (pV' : PropOf K C "variables" pV gV) (FV : FnOk P w K mg base CX0 (n + 1) gV fdV ["self"] (spEVars K C n)) (bV : Binds K fdV ["self"] []) :
    Cl P w K mg base (n + 3) "_law_mixed" (spMixed K C n) := by
  refine F.ok (k := n + 2) sc_law_mixed (fun vs H Q E h => ?_) (fun f cdv A outer s H vs Q E hr h => ?_)
  · obtain ⟨e, d1, d2, t, ns, ts1, ts2, rfl, _⟩ := h
    rfl
  obtain ⟨e, d1, d2, t, ns, ts1, ts2, rfl, he, hd, hpo, hrl, h1, h2, hnd, hnl, hl1, hl2, q⟩ := h
  refine ⟨_, (pss_cons (ps_set (i := 3) sc_law_mixed.nd rfl (Or.inl rfl) pe_dnewK)
      (pss_cons (ps_for PassesOwn.never rfl (pi_keys (pv 2)) (pg_name (i := 4) sc_law_mixed.nd rfl (Or.inl rfl)) (pss_one (ps_dput (hu_of hr) (pv 3) (pv 4) (pe_ifExp (pt_cmpR op_in_seq (pv 4) (pe_prop (pv 0) Z.cl pV' FV (hr.mono (by omega)) bV .nil pass0 rfl) rfl) (pe_dget (hu_of hr) (pv 1) (pv 4) (fun _ _ => rfl)) (pe_dget (hu_of hr) (pv 2) (pv 4) (fun _ _ => rfl))) rfl)))
      (pss_one (ps_ret (pv 3))))), ?_⟩
  cases h1 with
  | @rcd _ o1 kvs1 _ _ e1 k1 c1 f1 =>
  cases h2 with
  | @rcd _ o2 kvs2 _ _ e2 k2 c2 f2 =>
  have hk1 : kvs1.length = ns.length := by simpa using congrArg List.length k1
  have hk2 : kvs2.length = ns.length := by simpa using congrArg List.length k2
  intro D hD
  have e0 : Ex H (upd H D (.dK [])) := Ex.new hD
  refine ⟨_, rfl, d2, o2, rfl, .inl ⟨kvs2, e0 _ _ e2, for_it walk_keys
    (fun i σ H' => ∃ nm tsm, σ = [some e, some (.ref d1), some (.ref d2), some (.ref D), nm] ∧ Ex H H' ∧ tsm.length = i ∧ DcAt H' D (ns.take i) tsm ∧ ∀ (j : Nat) m, ns[j]? = some m → j < i → (∃ p ∈ rds t, p.head? = some m) → tsm[j]? = ts1[j]?)
    ⟨none, [], rfl, e0, rfl, ⟨[], upd_same, rfl, rfl, fun j v f h => by simp at h⟩, fun j m _ h => by omega⟩ (fun i σ H' _ h => let ⟨_, _, _, h2, _⟩ := h; h2 _ _ e2) ?_ ?_⟩⟩
  · rintro i x σ H' H'' hi ⟨nm, tsm, rfl, ex, htl, hdc, hm⟩ ⟨rfl, k, v2, hkv, rfl⟩
    obtain ⟨m, hn, rfl⟩ := key_name k2 hkv
    have hin : i < ns.length := (List.getElem?_eq_some_iff.mp hn).1
    obtain ⟨⟨k', v1⟩, hkv1⟩ : ∃ p, kvs1[i]? = some p := ⟨_, List.getElem?_eq_getElem (by omega)⟩
    obtain ⟨m', hn', rfl⟩ := key_name k1 hkv1
    rw [hn] at hn'
    cases hn'
    have g1 : (kvs1.map (·.2))[i]? = some v1 := by rw [List.getElem?_map, hkv1]; rfl
    have g2 : (kvs2.map (·.2))[i]? = some v2 := by rw [List.getElem?_map, hkv]; rfl
    obtain ⟨ta, hta⟩ : ∃ ta, ts1[i]? = some ta := ⟨_, List.getElem?_eq_getElem (by omega)⟩
    obtain ⟨tb, htb⟩ : ∃ tb, ts2[i]? = some tb := ⟨_, List.getElem?_eq_getElem (by omega)⟩
    have hv1 : valV kvs1 (Sum.inr m) = some v1 := by rw [valV_field k1]; exact at_field hnd hn g1
    have hv2 : valV kvs2 (Sum.inr m) = some v2 := by rw [valV_field k2]; exact at_field hnd hn g2
    obtain ⟨a, dx, u, rfl, ha, hu⟩ := he.ex ex
    refine ⟨_, rfl, _, rfl, a, dx, _, rfl, ha, .ref a, t, rfl, ⟨a, dx, u, rfl, ha, hu⟩, hd, hpo, hrl, fun Dv H2 ws e3 hDv hmem hwn hwl => ⟨Dv, _, rfl, .inr (SqT.of hDv), rfl, flat_strs ws, _, rfl, ?_⟩⟩
    have ex2 := ex.trans e3
    have hdc2 := hdc.mv (by
      obtain ⟨kv, hk⟩ := hdc.isD
      exact (e3 _ _ hk).trans hk.symm) (Im.ex e3)
    have fin : ∀ (v : V) (tv : Th), ThAt H2 v tv → ((∃ p ∈ rds t, p.head? = some m) → tv = ta) → ∃ kvs, H2 D = some (.dK kvs) ∧ kvs.length < sizeLine ∧ ∃ nm tsm, (some (V.str m) : Option V) = nm ∧ tsm.length = i + 1 ∧ DcAt (upd H2 D (.dK (putK kvs (Sum.inr m) v))) D (ns.take (i + 1)) tsm ∧
        ∀ (j : Nat) m, ns[j]? = some m → j < i + 1 → (∃ p ∈ rds t, p.head? = some m) → tsm[j]? = ts1[j]? := by
      intro v tv hv htv
      obtain ⟨kvs, h1, hl, hdc4⟩ := hdc2.put (take_not hnd hn) hv
      refine ⟨kvs, h1, szl (by rw [hl, List.length_take]; omega), _, tsm ++ [tv], rfl, by simp [htl], by rw [take_snoc hn]; exact hdc4, fun j m' hj hji hp => ?_⟩
      by_cases hjl : j < tsm.length
      · rw [List.getElem?_append_left hjl]
        exact hm j m' hj (by omega) hp
      · have e : j = i := by omega
        subst e
        rw [hn] at hj
        cases hj
        rw [List.getElem?_append_right (by omega), htl, Nat.sub_self, htv hp, hta]
        rfl
    have ei : inV (kV (Sum.inr m)) (ws.map V.str) = decide (m ∈ ws) := inV_strs m ws
    rw [ei]
    by_cases hin2 : m ∈ ws
    · rw [decide_eq_true hin2]
      refine iteT ?_
      obtain ⟨kvs, q1, q2, _, tsm', rfl, q3, q4, q5⟩ := fin v1 ta ((f1 i v1 ta g1 hta).im (Im.ex ex2)) (fun _ => rfl)
      refine ⟨_, rfl, _, rfl, d1, v1, rfl, .inl ⟨kvs1, Sum.inr m, .inr ⟨o1, ex2 _ _ e1⟩, rfl, hv1.symm⟩, _, rfl, _, rfl, D, _, rfl, DPut.k (k := Sum.inr m) q1 q2, ?_⟩
      exact ⟨_, tsm', rfl, ex2.mut hD, q3, q4, q5⟩
    · rw [decide_eq_false hin2]
      refine iteF ?_
      obtain ⟨kvs, q1, q2, _, tsm', rfl, q3, q4, q5⟩ := fin v2 tb ((f2 i v2 tb g2 htb).im (Im.ex ex2)) (fun hp => absurd ((hmem m).mpr hp) hin2)
      refine ⟨_, rfl, _, rfl, d2, v2, rfl, .inl ⟨kvs2, Sum.inr m, .inr ⟨o2, ex2 _ _ e2⟩, rfl, hv2.symm⟩, _, rfl, _, rfl, D, _, rfl, DPut.k (k := Sum.inr m) q1 q2, ?_⟩
      exact ⟨_, tsm', rfl, ex2.mut hD, q3, q4, q5⟩
  · rintro σ H' ⟨nm, tsm, rfl, ex, htl, hdc, hm⟩
    rw [List.take_of_length_le (by omega)] at hdc
    refine ⟨_, rfl, q D H' tsm ex hdc fun p hp m hh => ?_⟩
    cases e9 : fieldOf ns ts1 m with
    | some x =>
      obtain ⟨j, hj1, hj2⟩ := field_at e9
      have hjn := (List.getElem?_eq_some_iff.mp hj1).1
      refine at_field hnd hj1 ?_
      rw [hm j m hj1 (by omega) ⟨p, hp, hh⟩]
      exact hj2
    | none =>
      cases e8 : fieldOf ns tsm m with
      | none => rfl
      | some x =>
        obtain ⟨j, y, hj1, hj2, hj3⟩ := field_some (ys := ts1) e8 (by omega)
        rw [e9] at hj1
        cases hj1
def spLess (K : PySem.W.Frag) (C : Addr) (n : Nat) : Sp := fun vs H Q _ => ∃ (e : V) (d1 : Addr) (t : Tree) (ns : List Str) (ts1 : List Th), vs = [e, .ref d1] ∧ ExAt K C H e t ∧ dep t ≤ n ∧ (∀ p ∈ rds t, PathOk p) ∧ (rds t).length ≤ 60 ∧
  ThAt H (.ref d1) (.rcd ns ts1) ∧ (∀ p ∈ rds t, ∀ m, p.head? = some m → ∃ x, fieldOf ns ts1 m = some x) ∧
  ∀ d H' ws tsl, Ex H H' → DcAt H' d ws tsl → (∀ p ∈ rds t, ∀ m, p.head? = some m → fieldOf ws tsl m = fieldOf ns ts1 m) → Q (.ref d) H'
abbrev st_law_less : Stmt := (topS 53)
theorem sc_law_less : FnScope ["_law_expression_here", "_law_env", "_law_found", "_law_word"] ["_law_expression_here", "_law_env"] (defScope st_law_less) := ⟨rfl, rfl, rfl, by decide +kernel, rfl, by decide +kernel, by decide +kernel⟩
theorem ok_less {n : Nat} (T : Bi mg) (F : Df K mg "_law_less" ["_law_expression_here", "_law_env"] st_law_less) (Z : Ec K mg C) (pV' : PropOf K C "variables" pV gV) (FV : FnOk P w K mg base CX0 (n + 1) gV fdV ["self"] (spEVars K C n)) (bV : Binds K fdV ["self"] []) :
    Cl P w K mg base (n + 3) "_law_less" (spLess K C n) := by
  refine F.ok (k := n + 2) sc_law_less (fun vs H Q E h => ?_) (fun f cdv A outer s H vs Q E hr h => ?_)
  · obtain ⟨e, d1, t, ns, ts1, rfl, _⟩ := h
    rfl
  obtain ⟨e, d1, t, ns, ts1, rfl, he, hd, hpo, hrl, h1, hhd, q⟩ := h
  refine ⟨_, (pss_cons (ps_set (i := 2) sc_law_less.nd rfl (Or.inl rfl) pe_dnewK)
      (pss_cons (ps_for PassesOwn.never rfl (pi_tup (pe_prop (pv 0) Z.cl pV' FV (hr.mono (by omega)) bV .nil pass0 rfl)) (pg_name (i := 3) sc_law_less.nd rfl (Or.inl rfl)) (pss_one (ps_dput (hu_of hr) (pv 2) (pv 3) (pe_dget (hu_of hr) (pv 1) (pv 3) (fun _ _ => rfl)) rfl)))
      (pss_one (ps_ret (pv 2))))), ?_⟩
  intro D hD
  have e0 : Ex H (upd H D (.dK [])) := Ex.new hD
  obtain ⟨a, dx, u, rfl, ha, hu⟩ := he.ex e0
  refine ⟨_, rfl, a, dx, _, rfl, ha, .ref a, t, rfl, ⟨a, dx, u, rfl, ha, hu⟩, hd, hpo, hrl, fun Dv H2 ws e3 hDv hmem hwn hwl => ?_⟩
  have hD2 := e3 _ _ (upd_same (H := H) (a := D) (o := HO.dK []))
  refine ⟨Dv, rfl, ⟨_, SqT.of hDv⟩, for_tup (K := K) (a := Dv) (xs := ws.map V.str)
    (fun i σ H' => ∃ nm tsl, σ = [some (.ref a), some (.ref d1), some (.ref D), nm] ∧ Ex H H' ∧ H' Dv = some (.tup (ws.map V.str)) ∧ tsl.length = i ∧ DcAt H' D (ws.take i) tsl ∧ ∀ (j : Nat) m, ws[j]? = some m → j < i → tsl[j]? = fieldOf ns ts1 m)
    ⟨none, [], rfl, e0.trans e3, hDv, rfl, ⟨[], hD2, rfl, rfl, fun j v f h => by simp at h⟩, fun j m _ h => by omega⟩ (fun i σ H' _ h => let ⟨_, _, _, _, h2, _⟩ := h; SqT.of h2) ?_ ?_⟩
  · rintro i x σ H' hx ⟨nm, tsl, rfl, ex, hDv', htl, hdc, hm⟩
    obtain ⟨m, hn, rfl⟩ : ∃ m, ws[i]? = some m ∧ x = V.str m := by
      rw [List.getElem?_map] at hx
      cases e : ws[i]? with
      | none => rw [e] at hx; cases hx
      | some m => rw [e] at hx; exact ⟨m, rfl, (Option.some.inj hx).symm⟩
    obtain ⟨p, hp, hh⟩ := (hmem m).mp (List.mem_of_getElem? hn)
    obtain ⟨tv, htv⟩ := hhd p hp m hh
    obtain ⟨b, o1, kvs1, v1, eb, q1, q2, q3⟩ := (h1.im (Im.ex ex)).field htv
    cases eb
    obtain ⟨kvs, g1, hl, hdc4⟩ := hdc.put (take_not hwn hn) q3
    have hne : Dv ≠ D := by
      rintro rfl
      rw [hDv'] at g1
      cases g1
    refine ⟨_, rfl, _, rfl, d1, v1, rfl, .inl ⟨kvs1, Sum.inr m, .inr ⟨o1, q1⟩, rfl, q2.symm⟩, _, rfl, _, rfl, D, _, rfl, DPut.k (k := Sum.inr m) g1 (szl (by rw [hl, List.length_take]; omega)), ?_⟩
    refine ⟨_, tsl ++ [tv], rfl, ex.mut hD, by rw [upd_ne hne]; exact hDv', by simp [htl], by rw [take_snoc hn]; exact hdc4, fun j m' hj hji => ?_⟩
    by_cases hjl : j < tsl.length
    · rw [List.getElem?_append_left hjl]
      exact hm j m' hj (by omega)
    · have e : j = i := by omega
      subst e
      rw [hn] at hj
      cases hj
      rw [List.getElem?_append_right (by omega), htl, Nat.sub_self, htv]
      rfl
  · rintro σ H' ⟨nm, tsl, rfl, ex, hDv', htl, hdc, hm⟩
    rw [List.length_map] at htl hdc hm
    rw [List.take_of_length_le (by omega)] at hdc
    refine ⟨_, rfl, q D H' ws tsl ex hdc fun p hp m hh => ?_⟩
    obtain ⟨j, hj⟩ := List.mem_iff_getElem?.mp ((hmem m).mpr ⟨p, hp, hh⟩)
    have hjn := (List.getElem?_eq_some_iff.mp hj).1
    obtain ⟨x, hx⟩ := hhd p hp m hh
    rw [hx]
    refine at_field hwn hj ?_
    rw [hm j m hj hjn, hx]
end
end RT
/-! the law of one pool: the mathematics -/
namespace RT
open PySem PySem.Spec PyProof.Rows L2 Evl
theorem fits_lev {d : Nat} {f : Fm} (h : Wf d f) : ∀ {t : Th}, Fits f t → Lev d t := by
  induction h with
  | text d => intro t h; cases h; exact .str _
  | number d => intro t h; cases h; exact .int _
  | flag d => intro t h; cases h; exact .bl _
  | list _ ih => intro t h; cases h with | list h1 h2 => exact .lst h1 fun u hu => ih (h2 u hu)
  | keyed _ _ ih => intro t h; cases h with | keyed h1 h2 => exact .lst h1 fun u hu => ih (h2 u hu)
  | opt _ _ ih =>
    intro t h
    cases h with
    | none => exact .non
    | some h => exact ih h
  | @rcd d ns fs h1 h2 h3 h4 _ ih =>
    intro t h
    cases h with
    | rcd h5 h6 =>
      refine .rcd (by omega) h3 h4 fun u hu => ?_
      obtain ⟨i, hi⟩ := List.mem_iff_getElem?.mp hu
      obtain ⟨g, hg⟩ : ∃ g, fs[i]? = some g := ⟨_, List.getElem?_eq_getElem (by have := (List.getElem?_eq_some_iff.mp hi).1; omega)⟩
      exact ih g (List.mem_of_getElem? hg) (h6 i g u hg hi)
theorem fits_cmp {d : Nat} {f : Fm} (h : Wf d f) : ∀ {a b : Th}, Fits f a → Fits f b → Cmp (d + 1) a b := by
  induction h with
  | text d => intro a b h1 h2; cases h1; cases h2; exact .str _ _
  | number d => intro a b h1 h2; cases h1; cases h2; exact .int _ _
  | flag d => intro a b h1 h2; cases h1; cases h2; exact .bl _ _
  | list _ ih =>
    intro a b h1 h2
    cases h1 with
    | list p1 p2 =>
      cases h2 with
      | list q1 q2 => exact .lst p1 q1 fun i x y hx hy => ih (p2 x (List.mem_of_getElem? hx)) (q2 y (List.mem_of_getElem? hy))
  | keyed _ _ ih =>
    intro a b h1 h2
    cases h1 with
    | keyed p1 p2 =>
      cases h2 with
      | keyed q1 q2 => exact .lst p1 q1 fun i x y hx hy => ih (p2 x (List.mem_of_getElem? hx)) (q2 y (List.mem_of_getElem? hy))
  | opt _ _ ih =>
    intro a b h1 h2
    cases h1 with
    | none => exact .nonL _
    | some h1 =>
      cases h2 with
      | none => exact .nonR _
      | some h2 => exact ih h1 h2
  | @rcd d ns fs g1 g2 g3 g4 _ ih =>
    intro a b h1 h2
    cases h1 with
    | rcd p1 p2 =>
      cases h2 with
      | rcd q1 q2 =>
        refine .rcd (by omega) g3 g4 fun i x y hx hy => ?_
        obtain ⟨g, hg⟩ : ∃ g, fs[i]? = some g := ⟨_, List.getElem?_eq_getElem (by have := (List.getElem?_eq_some_iff.mp hx).1; omega)⟩
        exact ih g (List.mem_of_getElem? hg) (p2 i g x hg hx) (q2 i g y hg hy)
theorem wf_path : ∀ {r : List Str} {d : Nat} {f g : Fm}, Wf d f → pathF r f = some g → Wf d g
  | [], d, f, g, h, e => by
    simp [pathF] at e
    rw [← e]
    exact h
  | n :: r, d, f, g, h, e => by
    cases f with
    | rcd ns fs =>
      cases h with
      | rcd h1 h2 h3 h4 h5 =>
        simp only [pathF] at e
        cases q : fieldOf ns fs n with
        | none => rw [q] at e; simp at e
        | some f1 =>
          rw [q] at e
          obtain ⟨i, _, h6⟩ := field_at q
          exact (wf_path (h5 f1 (List.mem_of_getElem? h6)) (by simpa using e)).mono (by omega)
    | _ => simp [pathF] at e
theorem wf_look {ns : List Str} {fs : List Fm} (h : ∀ f ∈ fs, Wf 4 f) {p : List Str} {g : Fm} (e : lookF (fieldOf ns fs) p = some g) : Wf 4 g := by
  cases p with
  | nil => simp [lookF] at e
  | cons n r =>
    simp only [lookF] at e
    cases q : fieldOf ns fs n with
    | none => rw [q] at e; simp at e
    | some f1 =>
      rw [q] at e
      obtain ⟨i, _, h6⟩ := field_at q
      exact wf_path (h f1 (List.mem_of_getElem? h6)) (by simpa using e)
theorem env_fits {ns : List Str} {fs : List Fm} {ts : List Th} (hl : ts.length = fs.length) (h : ∀ (j : Nat) f t, fs[j]? = some f → ts[j]? = some t → Fits f t) : EnvFits (fieldOf ns fs) (fieldOf ns ts) := by
  intro n f hf
  obtain ⟨i, t, h1, h2, h3⟩ := field_some (ys := ts) hf hl
  exact ⟨t, h1, h i f t h2 h3⟩
theorem look_head {ρ ρ' : Str → Option Th} {p : List Str} (h : ∀ m, p.head? = some m → ρ m = ρ' m) : look ρ p = look ρ' p := by
  cases p with
  | nil => rfl
  | cons n r =>
    simp only [look]
    rw [h n rfl]
theorem look_some {sc : Str → Option Fm} {ρ : Str → Option Th} (E : EnvFits sc ρ) {p : List Str} {f : Fm} (h : lookF sc p = some f) {m : Str} (hm : p.head? = some m) : ∃ x, ρ m = some x := by
  cases p with
  | nil => simp at hm
  | cons n r =>
    have : n = m := by simpa using hm
    subst this
    simp only [lookF] at h
    cases q : sc n with
    | none => rw [q] at h; simp at h
    | some g =>
      obtain ⟨t, h1, _⟩ := E n g q
      exact ⟨t, h1⟩
theorem OkT.same {ρ ρ' : Str → Option Th} {t : Tree} (h : OkT ρ t) : (∀ p ∈ rds t, look ρ p = look ρ' p) → OkT ρ' t := by
  induction h with
  | get ns => exact fun _ => .get ns
  | text x => exact fun _ => .text x
  | number n => exact fun _ => .number n
  | flag b => exact fun _ => .flag b
  | @call v ts _ hl hx ih =>
    intro h
    refine .call (fun t ht => ih t ht fun p hp => h p (by simp only [rds]; exact rdss_mem ht hp)) hl fun x e => hx x ?_
    rw [ev_same _ h]
    exact e
theorem val_sc {k : Kd} {d : Nat} {r : Th} (h : Val1 k d r) : isSc r = true ∧ Lev 6 r ∧ Cmp 9 r r := by
  cases k with
  | text => obtain ⟨x, rfl, _⟩ := h; exact ⟨rfl, .str _, .str _ _⟩
  | number => obtain ⟨x, rfl⟩ := h; exact ⟨rfl, .int _, .int _ _⟩
  | flag => obtain ⟨x, rfl⟩ := h; exact ⟨rfl, .bl _, .bl _ _⟩
theorem name_if1 {σ : L2.St} {H : Hp} {D : Ends} {c : TT} {t1 t2 : TS} {i : Nat} {v : V} (h : tIfS c t1 t2 D (σ.set i (some v)) H) : gName i v σ H (tIfS c t1 t2 D) := h
theorem or_cps {σ : L2.St} {H : Hp} {A B : TT} {Q : Bool → Hp → Prop} (G : Hp → Prop) (hA : ∀ C : Bool → Hp → Prop, (∀ H1, G H1 → C false H1) → A σ H C) (hB : ∀ H1, G H1 → B σ H1 Q) : tOr A B σ H Q :=
  hA _ fun H1 g => hB H1 g
theorem DfAt.frz_ex {K : PySem.W.Frag} {H0 H : Hp} {a : Addr} {ns : List Str} {fs : List Fm} {Q : Hp → Prop} (ex : Ex H0 H) (h0 : H0 a = none) (h : DfAt K H a ns fs) (q : ∀ H', Ex H0 H' → ScAt K H' a ns fs → Q H') : FrzTo Q H :=
  h.frz fun H' im ho hs => q H' (fun b o e => by
    have hb : b ≠ a := by
      rintro rfl
      rw [h0] at e
      cases e
    rw [ho b hb]
    exact ex b o e) hs
theorem shaped_dNt {nss : List (List Str)} (h : ∀ ns ∈ nss, PathOk ns) : SeqAt.shaped (.tuple (nss.map dN)) = true := by
  have := shaped_dNs h
  unfold SeqAt.shaped at this ⊢
  simp only [PyData.canLay0, PyData.depth] at this ⊢
  exact this
theorem eq_nil_tup (L : List (List Str)) : PyData.eqv (.tuple (L.map dN)) (.tuple []) = L.isEmpty := by
  cases L <;> simp [PyData.eqv, PyData.eqvAll]
end RT
/-! the law of one pool; the law -/
namespace RT
open PySem PySem.Spec PyProof.Rows L2 Evl
section
variable {P : Program} {w : World} {K : PySem.W.Frag} {mg : Str → Option Value} {base : Heap} {k : Nat} {C pM gM gC pR gR : Addr} {fdR : FuncData} {mc : Value}
def spRight : Sp := fun vs H Q _ => ∃ (p : Addr), vs = [.ref p] ∧ PoolAt H p ∧ ∀ H', Pl p H H' → Q (.bl true) H'
abbrev st_law_right : Stmt := (topS 54)
theorem sc_law_right : FnScope ["_law_pool_here", "_law_fields_here", "_law_scope_here", "_law_first", "_law_second", "_law_turn", "_law_kind", "_law_made", "_law_told_here", "_law_no_change", "_law_names"] ["_law_pool_here"] (defScope st_law_right) := ⟨rfl, rfl, rfl, by decide +kernel, rfl, by decide +kernel, by decide +kernel⟩
theorem ok_right (T : Bi mg) (F : Df K mg "_law_right" ["_law_pool_here"] st_law_right) (Z : Ec K mg C) (rC : ClX.CRead K C mc) (cR : ClX.CMet K C mc "read" pM gM) (FR : FnR P w K mg base CX0 20 gM (spERead K C)) (CO : StX.CallO K C gC) (FC : FnR P w K mg base CX0 7 gC (spECall K C 4))
    (pR' : PropOf K C "reads" pR gR) (FRd : FnOk P w K mg base CX0 5 gR fdR ["self"] (spEReads K C 4)) (bRd : Binds K fdR ["self"] []) (c_law_draw : Cl P w K mg base 1 "_law_draw" spDraw)
    (c_law_fields : Cl P w K mg base 6 "_law_fields" (spFields K)) (c_law_scope : Cl P w K mg base 1 "_law_scope" (spScope K)) (c_law_things : Cl P w K mg base 13 "_law_things" (spThings K)) (c_law_expr : Cl P w K mg base 10 "_law_expr" (spExpr K 4)) (c_law_expr_text : Cl P w K mg base 4 "_law_expr_text" (spText K 4))
    (csame : Cl P w K mg base 10 "same" spSame) (c_law_mixed : Cl P w K mg base 7 "_law_mixed" (spMixed K C 4)) (c_law_less : Cl P w K mg base 7 "_law_less" (spLess K C 4)) (c_law_at : Cl P w K mg base 1 "_law_at" (spValueAt K)) : Cl P w K mg base 21 "_law_right" spRight := by
  refine F.ok (k := 20) sc_law_right (fun vs H Q E h => ?_) (fun f cdv A outer s H vs Q E hr h => ?_)
  · obtain ⟨p, rfl, _⟩ := h
    rfl
  obtain ⟨p, rfl, hp, q⟩ := h
  refine ⟨_, (pss_cons (ps_set (i := 1) sc_law_right.nd rfl (Or.inl rfl) (pc c_law_fields hr (by omega) rfl (pa_cons (pv 0) pa_nil)))
      (pss_cons (ps_asg (pe_tup (pa_cons (pe_frz (pc c_law_scope hr (by omega) rfl (pa_cons (pv 1) pa_nil))) (pa_cons (pe_frz (pc c_law_things hr (by omega) rfl (pa_cons (pv 0) (pa_cons (pv 1) pa_nil)))) (pa_cons (pe_frz (pc c_law_things hr (by omega) rfl (pa_cons (pv 0) (pa_cons (pv 1) pa_nil)))) pa_nil)))) (pg_tup rfl (pgs_cons (pg_name (i := 2) sc_law_right.nd rfl (Or.inl rfl)) (pgs_cons (pg_name (i := 3) sc_law_right.nd rfl (Or.inr rfl)) (pgs_cons (pg_name (i := 4) sc_law_right.nd rfl (Or.inr rfl)) pgs_nil)))))
      (pss_cons (ps_for PassesOwn.never rfl (pi_range1 rfl T.rng (pa_cons pe_int pa_nil)) (pg_name (i := 5) sc_law_right.nd rfl (Or.inl rfl)) (pss_cons (ps_set (i := 6) sc_law_right.nd rfl (Or.inl rfl) (pe_ix ix_list (pe_lst (pa_cons pe_str (pa_cons pe_str (pa_cons pe_str pa_nil)))) (pc c_law_draw hr (by omega) rfl (pa_cons (pv 0) (pa_cons pe_int pa_nil))) (fun _ _ => rfl)))
      (pss_cons (ps_set (i := 7) sc_law_right.nd rfl (Or.inl rfl) (ClX.pe_cmeth (pe_glob (by rfl) Z.mgC (show RelV (.ref C) _ from rfl)) rC cR FR (hr.mono (by omega)) pass0 (pa_cons (pc c_law_expr_text hr (by omega) rfl (pa_cons (pc c_law_expr hr (by omega) rfl (pa_cons (pv 0) (pa_cons (pv 2) (pa_cons (pv 6) (pa_cons pe_int pa_nil))))) pa_nil)) pa_nil)))
      (pss_cons (ps_set (i := 8) sc_law_right.nd rfl (Or.inl rfl) (StX.pe_callO (pv 7) CO FC (hr.mono (by omega)) pass0 (pa_cons (pv 3) pa_nil)))
      (pss_cons (ps_if (pt_not (pt_val (pc csame hr (by omega) rfl (pa_cons (StX.pe_callO (pv 7) CO FC (hr.mono (by omega)) pass0 (pa_cons (pc c_law_mixed hr (by omega) rfl (pa_cons (pv 7) (pa_cons (pv 3) (pa_cons (pv 4) pa_nil)))) pa_nil)) (pa_cons (pv 8) pa_nil))))) (pss_one (ps_ret pe_bl)) pss_nil)
      (pss_cons (ps_if (pt_not (pt_val (pc csame hr (by omega) rfl (pa_cons (StX.pe_callO (pv 7) CO FC (hr.mono (by omega)) pass0 (pa_cons (pc c_law_less hr (by omega) rfl (pa_cons (pv 7) (pa_cons (pv 3) pa_nil))) pa_nil)) (pa_cons (pv 8) pa_nil))))) (pss_one (ps_ret pe_bl)) pss_nil)
      (pss_cons (ps_set (i := 9) sc_law_right.nd rfl (Or.inl rfl) (pe_callB (cr_all rfl) rfl T.all (by decide +kernel) (pa_cons (pe_lc (own := [("_law_names", 10)]) (g := gName 10) (te := tCall spSame [] E0 (tCons (tCall (spValueAt K) [] E0 (tCons (tVar 10) (tCons (tVar 3) tNil))) (tCons (tCall (spValueAt K) [] E0 (tCons (tVar 10) (tCons (tVar 4) tNil))) tNil))) (tt := tYes) rfl sc_law_right.nd (pi_tup (pe_prop (pv 7) Z.cl pR' FRd (hr.mono (by omega)) bRd .nil pass0 rfl)) (blkOk_by (own := [("_law_names", 10)]) (N := ["_law_pool_here", "_law_fields_here", "_law_scope_here", "_law_first", "_law_second", "_law_turn", "_law_kind", "_law_made", "_law_told_here", "_law_no_change", "_law_names"]) (sc := defScope st_law_right) (by decide +kernel)) (fun _ _ _ _ _ => (pg_name (i := 10) sc_law_right.nd rfl (Or.inl rfl))) (fun _ _ _ _ _ => pts_nil) (fun _ _ _ _ _ => (pc csame hr (by omega) rfl (pa_cons (pc c_law_at hr (by omega) rfl (pa_cons (pv 10) (pa_cons (pv 3) pa_nil))) (pa_cons (pc c_law_at hr (by omega) rfl (pa_cons (pv 10) (pa_cons (pv 4) pa_nil))) pa_nil))))) pa_nil)))
      (pss_one (ps_if (PW.pt (pw_or (PW.pt (pw_and (pt_val (pv 9)) (pw_and1 (pt_not (pt_val (pc csame hr (by omega) rfl (pa_cons (StX.pe_callO (pv 7) CO FC (hr.mono (by omega)) pass0 (pa_cons (pv 4) pa_nil)) (pa_cons (pv 8) pa_nil)))))))) (pw_or1 (PW.pt (pw_and (pt_cmpR (op_eqD hr.units) (pe_prop (pv 7) Z.cl pR' FRd (hr.mono (by omega)) bRd .nil pass0 rfl) (pe_tup pa_nil) (nomark _)) (pw_and1 (pt_not (pt_val (pc csame hr (by omega) rfl (pa_cons (StX.pe_callO (pv 7) CO FC (hr.mono (by omega)) pass0 (pa_cons pe_dnewK pa_nil)) (pa_cons (pv 8) pa_nil))))))))))) (pss_one (ps_ret pe_bl)) pss_nil)))))))))
      (pss_one (ps_ret pe_bl))))), ?_⟩
  refine ⟨_, rfl, p, rfl, hp, fun vF ns fs H1 pl1 hvF hO => ?_⟩
  have hp1 := pl1.pool
  refine ⟨_, rfl, vF, ns, fs, rfl, hvF, hO, fun sa H2 e2 hs0 hdf => hdf.frz_ex e2 hs0 fun H3 e3 hS3 => ?_⟩
  have pl3 := Pl.of_ex hp1 e3
  have hnd := hO.w.nd
  have hnl := hO.w.len
  have hfl := hO.len
  refine ⟨_, rfl, _, rfl, p, vF, ns, fs, rfl, pl3.pool, Dp.im (Im.ex e3) (by simp only [noL, noL_pds]) hvF, hO, fun d1 H4 ts1 pl4 hd1 hdc1 hl1 hf1 => ?_⟩
  refine OpAt.frz (p := p) (H0 := H3) (v := .ref d1) (t := .rcd ns ts1) pl3.pool pl4 (.inr ⟨d1, ns, ts1, rfl, rfl, hd1, hdc1⟩) fun H5 pl5 im5 ht1 => ?_
  have pl5' := pl3.trans pl5
  refine ⟨_, rfl, _, rfl, p, vF, ns, fs, rfl, pl5'.pool, Dp.im (pl5'.im hp1) (by simp only [noL, noL_pds]) hvF, hO, fun d2 H6 ts2 pl6 hd2 hdc2 hl2 hf2 => ?_⟩
  refine OpAt.frz (p := p) (H0 := H5) (v := .ref d2) (t := .rcd ns ts2) pl5'.pool pl6 (.inr ⟨d2, ns, ts2, rfl, rfl, hd2, hdc2⟩) fun H7 pl7 im7 ht2 => ?_
  have pl7' := pl5'.trans pl7
  refine ⟨by show 3 ≤ sizeLine; decide, fun a ha => ?_⟩
  have e8 := Ex.new (o := .tup [.ref sa, .ref d1, .ref d2]) ha
  have pl8 := (pl1.trans pl7').ex e8
  have hS := (hS3.im (pl5.im pl3.pool)).im ((pl7.im pl5'.pool).trans (Im.ex e8))
  have hT1 := ht1.im ((pl7.im pl5'.pool).trans (Im.ex e8))
  have hT2 := ht2.im (Im.ex e8)
  have ET1 : EnvFits (fieldOf ns fs) (fieldOf ns ts1) := env_fits (by omega) hf1
  have ET2 : EnvFits (fieldOf ns fs) (fieldOf ns ts2) := env_fits (by omega) hf2
  refine ⟨a, _, rfl, SqT.of upd_same, rfl, _, _, rfl, _, _, rfl, _, _, rfl, rfl, ?_⟩
  generalize upd H7 a (.tup [.ref sa, .ref d1, .ref d2]) = Hc at pl8 hS hT1 hT2 ⊢
  clear e8 ha ht1 ht2 pl7' hdc2 hd2 pl7 pl6 im7 pl5' pl5 im5 hdc1 hd1 pl4 pl3 hS3 e3 hs0 hdf e2 hvF
  have hpc := pl8.pool
  refine ⟨_, rfl, by decide, by decide, for_range (n := 12) (fun i σ H' => ∃ v5 v6 v7 v8 v9, σ = [some (.ref p), some vF, some (.ref sa), some (.ref d1), some (.ref d2), v5, v6, v7, v8, v9, none] ∧ Pl p Hc H')
    ⟨none, none, none, none, none, rfl, Pl.refl hpc⟩ ?_ ?_⟩
  · rintro i σ H' hi ⟨v5, v6, v7, v8, v9, rfl, pl⟩
    refine ⟨by show 3 ≤ sizeLine; decide, fun l hl => ?_⟩
    have plA := pl.ex (Ex.new (o := .lst [.str "text", .str "number", .str "flag"]) hl)
    have nl : l ≠ p := by
      obtain ⟨_, _, _, z, _⟩ := pl.pool
      exact (ne_of_none z hl).symm
    refine ⟨_, rfl, p, 3, rfl, plA.pool, by decide, by decide, fun g0 HB plB g1 g2 => ?_⟩
    obtain ⟨gg, rfl⟩ := Int.eq_ofNat_of_zero_le g1
    obtain ⟨kd, hkd⟩ : ∃ kx : Kd, [V.str "text", V.str "number", V.str "flag"][gg]? = some (.str kx.str) := by
      have hc : gg = 0 ∨ gg = 1 ∨ gg = 2 := by omega
      rcases hc with rfl | rfl | rfl
      · exact ⟨.text, rfl⟩
      · exact ⟨.number, rfl⟩
      · exact ⟨.flag, rfl⟩
    refine ⟨l, _, _, .str kd.str, rfl, rfl, SqL.of (plB.keep _ _ nl upd_same), at_of rfl hkd, ?_⟩
    have plB' := plA.trans plB
    refine ⟨rfl, _, rfl, _, rfl, _, rfl, p, sa, kd, 3, ns, fs, rfl, by decide, plB'.pool, hS.im (plB'.im hpc), hO, fun ve t HC plC hte hk => ?_⟩
    have plC' := plB'.trans plC
    have hsz := Tok.sz hk.wt hk.pw
    have hdep : dep t ≤ 4 := hk.dp
    have hcl : (cod t).length ≤ 100000 := by
      have h1 := hsz.2
      have h2 : 4 ^ (dep t - 1) ≤ 4 ^ 3 := Nat.pow_le_pow_right (by decide) (by omega)
      have h3 : (4 : Nat) ^ 3 = 64 := by decide
      omega
    have hrl : (rds t).length ≤ 60 := by
      have h1 := hsz.1
      have h2 : 3 ^ (dep t - 1) ≤ 3 ^ 3 := Nat.pow_le_pow_right (by decide) (by omega)
      have h3 : (3 : Nat) ^ 3 = 27 := by decide
      omega
    have hpo : ∀ m ∈ rds t, PathOk m := fun m hm => (hk.pw m hm).ok
    refine ⟨ve, t, rfl, hte, hk.wt.wr, hdep, hcl, fun HD eD => ⟨t, rfl, hcl, Tok.pr hk.wt hk.pw, by omega, fun vm HE eE hm => ?_⟩⟩
    have plE := plC'.ex (eD.trans eE)
    obtain ⟨am, dx, um, rfl, ham, hum⟩ := id hm
    obtain ⟨r, hev, hval⟩ := wt_val ET1 hk.wt
    have hok := hk.wt.okT ET1 (by omega)
    obtain ⟨hsc, hlev, hcmp⟩ := val_sc hval
    have hTE1 := hT1.im (plE.im hpc)
    have hTE2 := hT2.im (plE.im hpc)
    have yes : ∀ {b : Bool}, SameOk b r r → b = true := fun ok => ok.yes rfl hsc
    refine ⟨_, rfl, am, rfl, _, rfl, .inr ⟨dx, _, ham⟩, .ref am, d1, t, fieldOf ns ts1, r, rfl, hm, hTE1.env, hev, hok, hdep, fun vt HF eF hvt => ?_⟩
    -- mixed
    refine ⟨_, rfl, am, rfl, _, rfl, _, rfl, _, rfl, .ref am, d1, d2, t, ns, ts1, ts2, rfl, hm.ex eF, hdep, hpo, hrl, hTE1.im (Im.ex eF), hTE2.im (Im.ex eF), hnd, by omega, by omega, by omega, fun dm HG tsm eG hdm hfm => ?_⟩
    have eG' := eF.trans eG
    have hlm : ∀ m ∈ rds t, look (fieldOf ns ts1) m = look (fieldOf ns tsm) m := fun m hm => look_head fun z hz => (hfm m hm z hz).symm
    refine ⟨.inr ⟨dx, _, eG' _ _ ham⟩, .ref am, dm, t, fieldOf ns tsm, r, rfl, hm.ex eG', hdm.env, by rw [← ev_same t hlm]; exact hev, hok.same hlm, hdep, fun v2 HH eH hv2 => ⟨_, rfl, v2, vt, r, r, rfl, hv2, hvt.im (Im.ex (eG.trans eH)), hlev, hlev, hcmp, fun b HI eI ok => ⟨_, rfl, ?_⟩⟩⟩
    rw [yes ok]
    refine iteF ?_
    -- less
    have eI' := (eG'.trans eH).trans eI
    have hvtI := hvt.im (Im.ex ((eG.trans eH).trans eI))
    refine ⟨_, rfl, am, rfl, _, rfl, _, rfl, .ref am, d1, t, ns, ts1, rfl, hm.ex eI', hdep, hpo, hrl, hTE1.im (Im.ex eI'), fun m hmr z hz => ?_, fun dl HJ ws tsl eJ hdl hfl2 => ?_⟩
    · obtain ⟨g, hg⟩ := wt_reads hk.wt m hmr
      exact look_some ET1 hg hz
    have hll : ∀ m ∈ rds t, look (fieldOf ns ts1) m = look (fieldOf ws tsl) m := fun m hm => look_head fun z hz => (hfl2 m hm z hz).symm
    have eJ' := eI'.trans eJ
    refine ⟨.inr ⟨dx, _, eJ' _ _ ham⟩, .ref am, dl, t, fieldOf ws tsl, r, rfl, hm.ex eJ', hdl.env, by rw [← ev_same t hll]; exact hev, hok.same hll, hdep, fun v3 HK eK hv3 => ⟨_, rfl, v3, vt, r, r, rfl, hv3, hvtI.im (Im.ex (eJ.trans eK)), hlev, hlev, hcmp, fun b2 HL eL ok2 => ⟨_, rfl, ?_⟩⟩⟩
    rw [yes ok2]
    refine iteF ?_
    -- no change
    have eL' := (eJ'.trans eK).trans eL
    have hvtL := hvtI.im (Im.ex ((eJ.trans eK).trans eL))
    refine ⟨_, rfl, am, dx, _, rfl, eL' _ _ ham, .ref am, t, rfl, hm.ex eL', hdep, hpo, hrl, fun Dr HM xs nss eM hDr hns hmem hnl2 => ?_⟩
    have eM' := eL'.trans eM
    have hxl := hns.len
    refine ⟨Dr, rfl, ⟨xs, SqT.of hDr⟩, fun D hD => lc_gen (walk_tup (a := Dr) (xs := xs)) (fun H' => Ex HM H') (fun i v _ => ∃ b : Bool, v = .bl b ∧ (b = true → ∀ m, nss[i]? = some m → ∀ x y, look (fieldOf ns ts1) m = some x → look (fieldOf ns ts2) m = some y → Shal x y)) (Ex.new hD) (fun H' o e => e.mut hD)
      (fun H' e => SqT.of (e _ _ hDr)) (fun i v H' H'' h _ => h) (szl (by omega)) ?_ ?_⟩
    · rintro j x H9 H10 C9 hj fr hacc ⟨rfl, hx⟩ kk
      obtain ⟨m, hm1, hm2⟩ := hns.get hx
      have hmr := (hmem m).mp (List.mem_of_getElem? hm1)
      obtain ⟨g, hg⟩ := wt_reads hk.wt m hmr
      obtain ⟨x1, hx1, hfx1⟩ := look_fits ET1 hg
      obtain ⟨x2, hx2, hfx2⟩ := look_fits ET2 hg
      have hwg : Wf 4 g := wf_look hO.wf hg
      have em := eM'.trans fr
      refine ⟨rfl, _, rfl, _, rfl, x, d1, m, fieldOf ns ts1, x1, rfl, Dp.im (Im.ex fr) (noL_dN m) hm2, (hTE1.im (Im.ex em)).env, hx1, fun va H11 e11 hva => ⟨_, rfl, _, rfl, x, d2, m, fieldOf ns ts2, x2, rfl, Dp.im (Im.ex (fr.trans e11)) (noL_dN m) hm2, (hTE2.im (Im.ex (em.trans e11))).env, hx2, fun vb H12 e12 hvb => ?_⟩⟩
      refine ⟨va, vb, x1, x2, rfl, hva.im (Im.ex e12), hvb, fits_lev (hwg.mono (by decide)) hfx1, fits_lev (hwg.mono (by decide)) hfx2, fits_cmp (d := 8) (hwg.mono (by decide)) hfx1 hfx2, fun b3 H13 e13 ok3 => ?_⟩
      have e14 := (e11.trans e12).trans e13
      refine kk _ _ (fr.trans e14) (Im.ex e14) (ex_at e14 hacc) ⟨b3, rfl, fun hb m' hm' y1 y2 h1 h2 => ?_⟩
      rw [hm1] at hm'
      cases hm'
      rw [hx1] at h1
      rw [hx2] at h2
      cases h1
      cases h2
      exact ok3.shal hb
    · intro HN acc fr hacc hal hall
      obtain ⟨bs, rfl⟩ := bools_ex fun i v hv => let ⟨b, e, _⟩ := hall i v hv; ⟨b, e⟩
      refine ⟨D, bs, rfl, SqL.of hacc, ?_⟩
      have hnc : bs.all id = true → ev (fieldOf ns ts2) t = some r := by
        intro hb
        rw [← hev]
        refine (wt_shal ET1 ET2 hk.wt fun m hm x y hx hy => ?_).symm
        obtain ⟨j, hj⟩ := List.mem_iff_getElem?.mp ((hmem m).mpr hm)
        have hjn := (List.getElem?_eq_some_iff.mp hj).1
        rw [List.length_map] at hal
        obtain ⟨b, hbj⟩ : ∃ b, bs[j]? = some b := ⟨_, List.getElem?_eq_getElem (by omega)⟩
        obtain ⟨b', hb1, hb2⟩ := hall j (.bl b) (by rw [List.getElem?_map, hbj]; rfl)
        cases hb1
        have hbt : b = true := by
          rw [List.all_eq_true] at hb
          exact hb b (List.mem_of_getElem? hbj)
        exact hb2 hbt m hj x y hx hy
      generalize bs.all id = nc at hnc ⊢
      have eN := eM'.trans fr
      have hvtN := hvtL.im (Im.ex (eM.trans fr))
      dsimp only
      refine name_if1 (if_cps (fun b H' => b = false ∧ Ex HN H') (fun C9 kk => ?_) (fun H' g => by cases g.1) (fun H' g => ?_))
      · refine or_cps (fun H' => Ex HN H') (fun C8 k8 => ?_) (fun HO2 eO => ?_)
        · refine ⟨_, rfl, _, rfl, ?_⟩
          cases nc with
          | false =>
            refine iteF ?_
            exact k8 _ (Ex.refl _)
          | true =>
            refine iteT ?_
            refine ⟨_, rfl, am, rfl, _, rfl, .inr ⟨dx, _, eN _ _ ham⟩, .ref am, d2, t, fieldOf ns ts2, r, rfl, hm.ex eN, (hTE2.im (Im.ex eN)).env, hnc rfl, hk.wt.okT ET2 (by omega), hdep, fun v4 H14 e14 hv4 => ⟨_, rfl, v4, vt, r, r, rfl, hv4, hvtN.im (Im.ex e14), hlev, hlev, hcmp, fun b4 H15 e15 ok4 => ⟨_, rfl, ?_⟩⟩⟩
            rw [yes ok4]
            exact k8 _ (e14.trans e15)
        · have eO' := eN.trans eO
          refine ⟨_, rfl, am, dx, _, rfl, eO' _ _ ham, .ref am, t, rfl, hm.ex eO', hdep, hpo, hrl, fun Dr2 H16 xs2 nss2 e16 hDr2 hns2 hmem2 hnl3 => ?_⟩
          refine ⟨by show 0 ≤ sizeLine; decide, fun c hc => ?_⟩
          have ec := Ex.new (o := .tup []) hc
          refine ⟨.tuple (nss2.map dN), .tuple [], .tup (SqT.of (ec _ _ hDr2)) ((hns2.im (Im.ex ec)).dp), .tup (SqT.of upd_same) .nil, shaped_dNt fun m hm => hpo m ((hmem2 m).mp hm), by decide +kernel, _, rfl, ?_⟩
          rw [eq_nil_tup]
          have e17 := (eO.trans e16).trans ec
          cases nss2 with
          | cons z zs =>
            refine iteF ?_
            exact kk _ _ ⟨rfl, e17⟩
          | nil =>
            refine iteT ?_
            have hrn : rds t = [] := by
              cases hq : rds t with
              | nil => rfl
              | cons z zs =>
                have := (hmem2 z).mpr (by rw [hq]; simp)
                simp at this
            have hle : ∀ m ∈ rds t, look (fieldOf ns ts1) m = look (fun _ => none) m := by rw [hrn]; simp
            refine ⟨_, rfl, am, rfl, ?_⟩
            intro de hde
            have ed := Ex.new (o := .dK []) hde
            have e18 := eN.trans (e17.trans ed)
            refine ⟨.inr ⟨dx, _, e18 _ _ ham⟩, .ref am, de, t, (fun _ => none), r, rfl, hm.ex e18, ⟨[], .inl upd_same, fun n t h => by cases h⟩, by rw [← ev_same t hle]; exact hev, hok.same hle, hdep, fun v5 H19 e19 hv5 => ⟨_, rfl, v5, vt, r, r, rfl, hv5, hvtN.im (Im.ex ((e17.trans ed).trans e19)), hlev, hlev, hcmp, fun b5 H20 e20 ok5 => ⟨_, rfl, ?_⟩⟩⟩
            rw [yes ok5]
            exact kk _ _ ⟨rfl, ((e17.trans ed).trans e19).trans e20⟩
      · refine ⟨_, _, _, _, _, rfl, plE.ex (eN.trans g.2)⟩
  · rintro σ H' ⟨v5, v6, v7, v8, v9, rfl, pl⟩
    exact q H' (pl8.trans pl)
end
end RT
/-! the law -/
namespace RT
open PySem PySem.Spec PyProof.Rows L2 Evl
section
variable {P : Program} {w : World} {K : PySem.W.Frag} {mg : Str → Option Value} {base : Heap} {k : Nat}
def spLaw (K : PySem.W.Frag) : Sp := fun vs H Q _ => ∃ (a : Addr) (ns : List Int), vs = [.ref a] ∧ SqL K H a (ns.map V.int) ∧ ∀ H', Q (.bl true) H'
abbrev st_law : Stmt := (topS 55)
theorem sc_law : FnScope ["_law_script", "_law_k"] ["_law_script"] (defScope st_law) := ⟨rfl, rfl, rfl, by decide +kernel, rfl, by decide +kernel, by decide +kernel⟩
theorem ok_law {f : Addr} {fd : FuncData} (T : Bi mg) (F : Fun K "law" "law" st_law f fd) (c_law_cell : Cl P w K mg base 1 "_law_cell" (spCell K)) (c_law_pool : Cl P w K mg base 1 "_law_pool" spPool) (c_law_right : Cl P w K mg base 21 "_law_right" spRight) : FnOk P w K mg base CX0 22 f fd ["_law_script"] (spLaw K) := by
  refine F.ok (k := 21) sc_law (fun vs H Q E h => ?_) (fun cdv A outer s H vs Q E hr h => ?_)
  · obtain ⟨a, ns, rfl, _⟩ := h
    rfl
  obtain ⟨a, ns, rfl, hS, q⟩ := h
  refine ⟨_, (pss_one (ps_ret (pe_callB (cr_all rfl) rfl T.all (by decide +kernel) (pa_cons (pe_lc (own := [("_law_k", 1)]) (g := gName 1) (tt := tYes) rfl sc_law.nd (pi_range1 rfl T.rng (pa_cons (pe_callB (call_max2 rfl) rfl T.max (by decide +kernel) (pa_cons pe_int (pa_cons (pe_callB (call_min2 rfl) rfl T.min (by decide +kernel) (pa_cons (pe_callB call_len_seq rfl T.len PySem.boot_len (pa_cons (pv 0) pa_nil)) (pa_cons pe_int pa_nil))) pa_nil))) pa_nil)) (blkOk_by (own := [("_law_k", 1)]) (N := ["_law_script", "_law_k"]) (sc := defScope st_law) (by decide +kernel)) (fun _ _ _ _ _ => (pg_name (i := 1) sc_law.nd rfl (Or.inl rfl))) (fun _ _ _ _ _ => pts_nil) (fun _ _ _ _ _ => (pc c_law_right hr (by omega) rfl (pa_cons (pc c_law_pool hr (by omega) rfl (pa_cons (pc c_law_cell hr (by omega) rfl (pa_cons (pv 0) (pa_cons (pv 1) pa_nil))) pa_nil)) pa_nil)))) pa_nil)))), ?_⟩
  have lim : ∀ j : Int, (if (if (5 : Int) < j then (5 : Int) else j) > 2 then (if (5 : Int) < j then (5 : Int) else j) else 2) ≤ 5 ∧ 2 ≤ (if (if (5 : Int) < j then (5 : Int) else j) > 2 then (if (5 : Int) < j then (5 : Int) else j) else 2) := by
    intro j
    split <;> split <;> omega
  have hb := lim ((ns.map V.int).length : Int)
  refine ⟨_, rfl, a, _, rfl, .inl hS, _, _, rfl, _, _, rfl, _, rfl, by omega, by omega, ?_⟩
  generalize (if (if (5 : Int) < ((ns.map V.int).length : Int) then (5 : Int) else ((ns.map V.int).length : Int)) > 2 then (if (5 : Int) < ((ns.map V.int).length : Int) then (5 : Int) else ((ns.map V.int).length : Int)) else 2) = j at hb ⊢
  refine fun D hD => lc_gen (walk_range (n := j.toNat)) (fun H' => Ex H H') (fun i v _ => v = .bl true) (Ex.new hD) (fun H' o e => e.mut hD) (fun H' e => trivial) (fun i v H' H'' h _ => h) (szl (by omega)) ?_ ?_
  · rintro i x H9 H' C hi fr hacc ⟨rfl, rfl⟩ kk
    refine ⟨rfl, _, rfl, _, rfl, a, ns, i, congrArg (fun z => [V.ref a, V.int z]) (show (0 : Int) + (i : Int) = (i : Int) by omega), ex_l fr hS, by omega, fun v H1 e1 => ⟨v, rfl, fun p H2 e2 hp hpool => ⟨p, rfl, hpool, fun H3 pl3 => ?_⟩⟩⟩
    have keep : ∀ b o, H' b = some o → H3 b = some o := by
      intro b o hb
      have h1 := e1 _ _ hb
      have hne : b ≠ p := by
        rintro rfl
        rw [h1] at hp
        cases hp
      exact pl3.keep _ _ hne (e2 _ _ h1)
    refine kk _ _ (fun b o hb => keep b o (fr b o hb)) (Im.ex keep) ?_ rfl
    obtain ⟨acc, hacc⟩ := hacc
    rw [hacc]
    exact keep _ _ hacc
  · intro H' acc fr hacc _ hall
    obtain ⟨bs, rfl, hbs⟩ := bools_true hall
    refine ⟨D, bs, rfl, SqL.of hacc, ?_⟩
    rw [hbs]
    exact q H'
end
end RT
/-! what the top has left; the end -/
namespace RT
open PySem PySem.Spec PyProof.Rows L2 Evl
theorem fnr {P : Program} {w : World} {K : PySem.W.Frag} {mg : Str → Option Value} {base : Heap} {k : Nat} {f : Addr} {fd : FuncData} {ps : List Str} {sp : Sp} (F : FnOk P w K mg base CX0 k f fd ps sp) (b : Binds K fd ps []) : FnR P w K mg base CX0 k f sp :=
  (F.raw b .nil).imp fun vs H Q E h => by
    rw [List.append_nil]
    exact h
theorem all_mk {l : PySem.W.OpenLaw} {w : World} {K : PySem.W.Frag} {h : Heap} {mg : Str → Option Value} {fa C : Addr} {f0 f1 f2 f3 f4 f5 f6 f7 f8 f9 f10 f11 f12 f13 f14 f15 f16 f17 f18 f19 f20 f21 f22 f23 f24 f25 f26 f27 f28 f29 f30 f31 f32 f33 f34 fI fM fR fV fA pM pR pV aNV aOP aLE : Addr} (X : K.In h) (G : h.Ns mainGlobals mg) (hfa : mg "law" = some (.ref fa))
    {od0 an0 od1 an1 od2 an2 od3 an3 od4 an4 od5 an5 od6 an6 od7 an7 od8 an8 od9 an9 od10 an10 od11 an11 od12 an12 od13 an13 od14 an14 od15 an15 od16 an16 od17 an17 od18 an18 od19 an19 od20 an20 od21 an21 od22 an22 od23 an23 od24 an24 od25 an25 od26 an26 od27 an27 od28 an28 od29 an29 od30 an30 od31 an31 od32 an32 od33 an33 od34 an34 odI anI odM anM odR anR odV anV odA anA odN odO : Option Addr} {sl0 sl1 sl2 sl3 sl4 sl5 sl6 sl7 sl8 sl9 sl10 sl11 sl12 sl13 sl14 sl15 sl16 sl17 sl18 sl19 sl20 sl21 sl22 sl23 sl24 sl25 sl26 sl27 sl28 sl29 sl30 sl31 sl32 sl33 sl34 slI slM slR slV slA slN slO : Array (Option Value)} {oc0 kV0 dc0 pm0 cd0 ct0 oc1 kV1 dc1 pm1 cd1 ct1 oc2 kV2 dc2 pm2 cd2 ct2 oc3 kV3 dc3 pm3 cd3 ct3 oc4 kV4 dc4 pm4 cd4 ct4 oc5 kV5 dc5 pm5 cd5 ct5 oc6 kV6 dc6 pm6 cd6 ct6 oc7 kV7 dc7 pm7 cd7 ct7 oc8 kV8 dc8 pm8 cd8 ct8 oc9 kV9 dc9 pm9 cd9 ct9 oc10 kV10 dc10 pm10 cd10 ct10 oc11 kV11 dc11 pm11 cd11 ct11 oc12 kV12 dc12 pm12 cd12 ct12 oc13 kV13 dc13 pm13 cd13 ct13 oc14 kV14 dc14 pm14 cd14 ct14 oc15 kV15 dc15 pm15 cd15 ct15 oc16 kV16 dc16 pm16 cd16 ct16 oc17 kV17 dc17 pm17 cd17 ct17 oc18 kV18 dc18 pm18 cd18 ct18 oc19 kV19 dc19 pm19 cd19 ct19 oc20 kV20 dc20 pm20 cd20 ct20 oc21 kV21 dc21 pm21 cd21 ct21 oc22 kV22 dc22 pm22 cd22 ct22 oc23 kV23 dc23 pm23 cd23 ct23 oc24 kV24 dc24 pm24 cd24 ct24 oc25 kV25 dc25 pm25 cd25 ct25 oc26 kV26 dc26 pm26 cd26 ct26 oc27 kV27 dc27 pm27 cd27 ct27 oc28 kV28 dc28 pm28 cd28 ct28 oc29 kV29 dc29 pm29 cd29 ct29 oc30 kV30 dc30 pm30 cd30 ct30 oc31 kV31 dc31 pm31 cd31 ct31 oc32 kV32 dc32 pm32 cd32 ct32 oc33 kV33 dc33 pm33 cd33 ct33 oc34 kV34 dc34 pm34 cd34 ct34 ocI kVI dcI pmI cdI ctI ocM kVM dcM pmM cdM ctM ocR kVR dcR pmR cdR ctR ocV kVV dcV pmV cdV ctV ocA kVA dcA pmA cdA ctA : Value}
    {t_elems t_levels t_letters t_digits t_mlev t_mdig t_mchr tL0 tL1 tL2 tL3 tL4 tL5 tL6 tL7 tL8 tL9 tN1 tN2 tN3 tO1 tO2 : PySem.Tok} {nN nO nL : Nat} {es : Array DictEntry} {rsM rsR rsV : List Value}
    (a0 : PySem.W.nsIn K mainGlobals "is_name" = some (some (.ref f0)))
    (l0 : K.lookup f0 = some ⟨oc0, od0, .func (PySem.W.fnOf "is_name" "is_name" (defArgs st_is_name) (defBody st_is_name) (defScope st_is_name) .none kV0 dc0 pm0 an0 cd0 ct0), sl0⟩) (c0 : PySem.W.codeIn K cd0 "is_name" = true) (k0 : PySem.W.keepIn K (.ref f0) = true)
    (a1 : PySem.W.nsIn K mainGlobals "has_level" = some (some (.ref f1)))
    (l1 : K.lookup f1 = some ⟨oc1, od1, .func (PySem.W.fnOf "has_level" "has_level" (defArgs st_has_level) (defBody st_has_level) (defScope st_has_level) .none kV1 dc1 pm1 an1 cd1 ct1), sl1⟩) (c1 : PySem.W.codeIn K cd1 "has_level" = true) (k1 : PySem.W.keepIn K (.ref f1) = true)
    (a2 : PySem.W.nsIn K mainGlobals "same_values" = some (some (.ref f2)))
    (l2 : K.lookup f2 = some ⟨oc2, od2, .func (PySem.W.fnOf "same_values" "same_values" (defArgs st_same_values) (defBody st_same_values) (defScope st_same_values) .none kV2 dc2 pm2 an2 cd2 ct2), sl2⟩) (c2 : PySem.W.codeIn K cd2 "same_values" = true) (k2 : PySem.W.keepIn K (.ref f2) = true)
    (a3 : PySem.W.nsIn K mainGlobals "value_at" = some (some (.ref f3)))
    (l3 : K.lookup f3 = some ⟨oc3, od3, .func (PySem.W.fnOf "value_at" "value_at" (defArgs st_value_at) (defBody st_value_at) (defScope st_value_at) .none kV3 dc3 pm3 an3 cd3 ct3), sl3⟩) (c3 : PySem.W.codeIn K cd3 "value_at" = true) (k3 : PySem.W.keepIn K (.ref f3) = true)
    (a4 : PySem.W.nsIn K mainGlobals "name_from" = some (some (.ref f4)))
    (l4 : K.lookup f4 = some ⟨oc4, od4, .func (PySem.W.fnOf "name_from" "name_from" (defArgs st_name_from) (defBody st_name_from) (defScope st_name_from) .none kV4 dc4 pm4 an4 cd4 ct4), sl4⟩) (c4 : PySem.W.codeIn K cd4 "name_from" = true) (k4 : PySem.W.keepIn K (.ref f4) = true)
    (a5 : PySem.W.nsIn K mainGlobals "is_value" = some (some (.ref f5)))
    (l5 : K.lookup f5 = some ⟨oc5, od5, .func (PySem.W.fnOf "is_value" "is_value" (defArgs st_is_value) (defBody st_is_value) (defScope st_is_value) .none kV5 dc5 pm5 an5 cd5 ct5), sl5⟩) (c5 : PySem.W.codeIn K cd5 "is_value" = true) (k5 : PySem.W.keepIn K (.ref f5) = true)
    (a6 : PySem.W.nsIn K mainGlobals "same" = some (some (.ref f6)))
    (l6 : K.lookup f6 = some ⟨oc6, od6, .func (PySem.W.fnOf "same" "same" (defArgs st_same) (defBody st_same) (defScope st_same) .none kV6 dc6 pm6 an6 cd6 ct6), sl6⟩) (c6 : PySem.W.codeIn K cd6 "same" = true) (k6 : PySem.W.keepIn K (.ref f6) = true)
    (a7 : PySem.W.nsIn K mainGlobals "read_quoted" = some (some (.ref f7)))
    (l7 : K.lookup f7 = some ⟨oc7, od7, .func (PySem.W.fnOf "read_quoted" "read_quoted" (defArgs st_read_quoted) (defBody st_read_quoted) (defScope st_read_quoted) .none kV7 dc7 pm7 an7 cd7 ct7), sl7⟩) (c7 : PySem.W.codeIn K cd7 "read_quoted" = true) (k7 : PySem.W.keepIn K (.ref f7) = true)
    (a8 : PySem.W.nsIn K mainGlobals "read_digits" = some (some (.ref f8)))
    (l8 : K.lookup f8 = some ⟨oc8, od8, .func (PySem.W.fnOf "read_digits" "read_digits" (defArgs st_read_digits) (defBody st_read_digits) (defScope st_read_digits) .none kV8 dc8 pm8 an8 cd8 ct8), sl8⟩) (c8 : PySem.W.codeIn K cd8 "read_digits" = true) (k8 : PySem.W.keepIn K (.ref f8) = true)
    (a9 : PySem.W.nsIn K mainGlobals "read_variable" = some (some (.ref f9)))
    (l9 : K.lookup f9 = some ⟨oc9, od9, .func (PySem.W.fnOf "read_variable" "read_variable" (defArgs st_read_variable) (defBody st_read_variable) (defScope st_read_variable) .none kV9 dc9 pm9 an9 cd9 ct9), sl9⟩) (c9 : PySem.W.codeIn K cd9 "read_variable" = true) (k9 : PySem.W.keepIn K (.ref f9) = true)
    (a10 : PySem.W.nsIn K mainGlobals "read_call" = some (some (.ref f10)))
    (l10 : K.lookup f10 = some ⟨oc10, od10, .func (PySem.W.fnOf "read_call" "read_call" (defArgs st_read_call) (defBody st_read_call) (defScope st_read_call) .none kV10 dc10 pm10 an10 cd10 ct10), sl10⟩) (c10 : PySem.W.codeIn K cd10 "read_call" = true) (k10 : PySem.W.keepIn K (.ref f10) = true)
    (a11 : PySem.W.nsIn K mainGlobals "read_tree" = some (some (.ref f11)))
    (l11 : K.lookup f11 = some ⟨oc11, od11, .func (PySem.W.fnOf "read_tree" "read_tree" (defArgs st_read_tree) (defBody st_read_tree) (defScope st_read_tree) .none kV11 dc11 pm11 an11 cd11 ct11), sl11⟩) (c11 : PySem.W.codeIn K cd11 "read_tree" = true) (k11 : PySem.W.keepIn K (.ref f11) = true)
    (a12 : PySem.W.nsIn K mainGlobals "parse_expression" = some (some (.ref f12)))
    (l12 : K.lookup f12 = some ⟨oc12, od12, .func (PySem.W.fnOf "parse_expression" "parse_expression" (defArgs st_parse_expression) (defBody st_parse_expression) (defScope st_parse_expression) .none kV12 dc12 pm12 an12 cd12 ct12), sl12⟩) (c12 : PySem.W.codeIn K cd12 "parse_expression" = true) (k12 : PySem.W.keepIn K (.ref f12) = true)
    (a13 : PySem.W.nsIn K mainGlobals "value_of" = some (some (.ref f13)))
    (l13 : K.lookup f13 = some ⟨oc13, od13, .func (PySem.W.fnOf "value_of" "value_of" (defArgs st_value_of) (defBody st_value_of) (defScope st_value_of) .none kV13 dc13 pm13 an13 cd13 ct13), sl13⟩) (c13 : PySem.W.codeIn K cd13 "value_of" = true) (k13 : PySem.W.keepIn K (.ref f13) = true)
    (a14 : PySem.W.nsIn K mainGlobals "applied" = some (some (.ref f14)))
    (l14 : K.lookup f14 = some ⟨oc14, od14, .func (PySem.W.fnOf "applied" "applied" (defArgs st_applied) (defBody st_applied) (defScope st_applied) .none kV14 dc14 pm14 an14 cd14 ct14), sl14⟩) (c14 : PySem.W.codeIn K cd14 "applied" = true) (k14 : PySem.W.keepIn K (.ref f14) = true)
    (a15 : PySem.W.nsIn K mainGlobals "reads_of" = some (some (.ref f15)))
    (l15 : K.lookup f15 = some ⟨oc15, od15, .func (PySem.W.fnOf "reads_of" "reads_of" (defArgs st_reads_of) (defBody st_reads_of) (defScope st_reads_of) .none kV15 dc15 pm15 an15 cd15 ct15), sl15⟩) (c15 : PySem.W.codeIn K cd15 "reads_of" = true) (k15 : PySem.W.keepIn K (.ref f15) = true)
    (a16 : PySem.W.nsIn K mainGlobals "_law_cell" = some (some (.ref f16)))
    (l16 : K.lookup f16 = some ⟨oc16, od16, .func (PySem.W.fnOf "_law_cell" "_law_cell" (defArgs st_law_cell) (defBody st_law_cell) (defScope st_law_cell) .none kV16 dc16 pm16 an16 cd16 ct16), sl16⟩) (c16 : PySem.W.codeIn K cd16 "_law_cell" = true) (k16 : PySem.W.keepIn K (.ref f16) = true)
    (a17 : PySem.W.nsIn K mainGlobals "_law_pool" = some (some (.ref f17)))
    (l17 : K.lookup f17 = some ⟨oc17, od17, .func (PySem.W.fnOf "_law_pool" "_law_pool" (defArgs st_law_pool) (defBody st_law_pool) (defScope st_law_pool) .none kV17 dc17 pm17 an17 cd17 ct17), sl17⟩) (c17 : PySem.W.codeIn K cd17 "_law_pool" = true) (k17 : PySem.W.keepIn K (.ref f17) = true)
    (a18 : PySem.W.nsIn K mainGlobals "_law_draw" = some (some (.ref f18)))
    (l18 : K.lookup f18 = some ⟨oc18, od18, .func (PySem.W.fnOf "_law_draw" "_law_draw" (defArgs st_law_draw) (defBody st_law_draw) (defScope st_law_draw) .none kV18 dc18 pm18 an18 cd18 ct18), sl18⟩) (c18 : PySem.W.codeIn K cd18 "_law_draw" = true) (k18 : PySem.W.keepIn K (.ref f18) = true)
    (a19 : PySem.W.nsIn K mainGlobals "_law_words" = some (some (.ref f19)))
    (l19 : K.lookup f19 = some ⟨oc19, od19, .func (PySem.W.fnOf "_law_words" "_law_words" (defArgs st_law_words) (defBody st_law_words) (defScope st_law_words) .none kV19 dc19 pm19 an19 cd19 ct19), sl19⟩) (c19 : PySem.W.codeIn K cd19 "_law_words" = true) (k19 : PySem.W.keepIn K (.ref f19) = true)
    (a20 : PySem.W.nsIn K mainGlobals "_law_chars" = some (some (.ref f20)))
    (l20 : K.lookup f20 = some ⟨oc20, od20, .func (PySem.W.fnOf "_law_chars" "_law_chars" (defArgs st_law_chars) (defBody st_law_chars) (defScope st_law_chars) .none kV20 dc20 pm20 an20 cd20 ct20), sl20⟩) (c20 : PySem.W.codeIn K cd20 "_law_chars" = true) (k20 : PySem.W.keepIn K (.ref f20) = true)
    (a21 : PySem.W.nsIn K mainGlobals "_law_form" = some (some (.ref f21)))
    (l21 : K.lookup f21 = some ⟨oc21, od21, .func (PySem.W.fnOf "_law_form" "_law_form" (defArgs st_law_form) (defBody st_law_form) (defScope st_law_form) .none kV21 dc21 pm21 an21 cd21 ct21), sl21⟩) (c21 : PySem.W.codeIn K cd21 "_law_form" = true) (k21 : PySem.W.keepIn K (.ref f21) = true)
    (a22 : PySem.W.nsIn K mainGlobals "_law_thing_of" = some (some (.ref f22)))
    (l22 : K.lookup f22 = some ⟨oc22, od22, .func (PySem.W.fnOf "_law_thing_of" "_law_thing_of" (defArgs st_law_thing_of) (defBody st_law_thing_of) (defScope st_law_thing_of) .none kV22 dc22 pm22 an22 cd22 ct22), sl22⟩) (c22 : PySem.W.codeIn K cd22 "_law_thing_of" = true) (k22 : PySem.W.keepIn K (.ref f22) = true)
    (a23 : PySem.W.nsIn K mainGlobals "_law_reads" = some (some (.ref f23)))
    (l23 : K.lookup f23 = some ⟨oc23, od23, .func (PySem.W.fnOf "_law_reads" "_law_reads" (defArgs st_law_reads) (defBody st_law_reads) (defScope st_law_reads) .none kV23 dc23 pm23 an23 cd23 ct23), sl23⟩) (c23 : PySem.W.codeIn K cd23 "_law_reads" = true) (k23 : PySem.W.keepIn K (.ref f23) = true)
    (a24 : PySem.W.nsIn K mainGlobals "_law_expr" = some (some (.ref f24)))
    (l24 : K.lookup f24 = some ⟨oc24, od24, .func (PySem.W.fnOf "_law_expr" "_law_expr" (defArgs st_law_expr) (defBody st_law_expr) (defScope st_law_expr) .none kV24 dc24 pm24 an24 cd24 ct24), sl24⟩) (c24 : PySem.W.codeIn K cd24 "_law_expr" = true) (k24 : PySem.W.keepIn K (.ref f24) = true)
    (a25 : PySem.W.nsIn K mainGlobals "_law_call" = some (some (.ref f25)))
    (l25 : K.lookup f25 = some ⟨oc25, od25, .func (PySem.W.fnOf "_law_call" "_law_call" (defArgs st_law_call) (defBody st_law_call) (defScope st_law_call) .none kV25 dc25 pm25 an25 cd25 ct25), sl25⟩) (c25 : PySem.W.codeIn K cd25 "_law_call" = true) (k25 : PySem.W.keepIn K (.ref f25) = true)
    (a26 : PySem.W.nsIn K mainGlobals "_law_expr_text" = some (some (.ref f26)))
    (l26 : K.lookup f26 = some ⟨oc26, od26, .func (PySem.W.fnOf "_law_expr_text" "_law_expr_text" (defArgs st_law_expr_text) (defBody st_law_expr_text) (defScope st_law_expr_text) .none kV26 dc26 pm26 an26 cd26 ct26), sl26⟩) (c26 : PySem.W.codeIn K cd26 "_law_expr_text" = true) (k26 : PySem.W.keepIn K (.ref f26) = true)
    (a27 : PySem.W.nsIn K mainGlobals "_law_fields" = some (some (.ref f27)))
    (l27 : K.lookup f27 = some ⟨oc27, od27, .func (PySem.W.fnOf "_law_fields" "_law_fields" (defArgs st_law_fields) (defBody st_law_fields) (defScope st_law_fields) .none kV27 dc27 pm27 an27 cd27 ct27), sl27⟩) (c27 : PySem.W.codeIn K cd27 "_law_fields" = true) (k27 : PySem.W.keepIn K (.ref f27) = true)
    (a28 : PySem.W.nsIn K mainGlobals "_law_scope" = some (some (.ref f28)))
    (l28 : K.lookup f28 = some ⟨oc28, od28, .func (PySem.W.fnOf "_law_scope" "_law_scope" (defArgs st_law_scope) (defBody st_law_scope) (defScope st_law_scope) .none kV28 dc28 pm28 an28 cd28 ct28), sl28⟩) (c28 : PySem.W.codeIn K cd28 "_law_scope" = true) (k28 : PySem.W.keepIn K (.ref f28) = true)
    (a29 : PySem.W.nsIn K mainGlobals "_law_things" = some (some (.ref f29)))
    (l29 : K.lookup f29 = some ⟨oc29, od29, .func (PySem.W.fnOf "_law_things" "_law_things" (defArgs st_law_things) (defBody st_law_things) (defScope st_law_things) .none kV29 dc29 pm29 an29 cd29 ct29), sl29⟩) (c29 : PySem.W.codeIn K cd29 "_law_things" = true) (k29 : PySem.W.keepIn K (.ref f29) = true)
    (a30 : PySem.W.nsIn K mainGlobals "_law_at" = some (some (.ref f30)))
    (l30 : K.lookup f30 = some ⟨oc30, od30, .func (PySem.W.fnOf "_law_at" "_law_at" (defArgs st_law_at) (defBody st_law_at) (defScope st_law_at) .none kV30 dc30 pm30 an30 cd30 ct30), sl30⟩) (c30 : PySem.W.codeIn K cd30 "_law_at" = true) (k30 : PySem.W.keepIn K (.ref f30) = true)
    (a31 : PySem.W.nsIn K mainGlobals "_law_mixed" = some (some (.ref f31)))
    (l31 : K.lookup f31 = some ⟨oc31, od31, .func (PySem.W.fnOf "_law_mixed" "_law_mixed" (defArgs st_law_mixed) (defBody st_law_mixed) (defScope st_law_mixed) .none kV31 dc31 pm31 an31 cd31 ct31), sl31⟩) (c31 : PySem.W.codeIn K cd31 "_law_mixed" = true) (k31 : PySem.W.keepIn K (.ref f31) = true)
    (a32 : PySem.W.nsIn K mainGlobals "_law_less" = some (some (.ref f32)))
    (l32 : K.lookup f32 = some ⟨oc32, od32, .func (PySem.W.fnOf "_law_less" "_law_less" (defArgs st_law_less) (defBody st_law_less) (defScope st_law_less) .none kV32 dc32 pm32 an32 cd32 ct32), sl32⟩) (c32 : PySem.W.codeIn K cd32 "_law_less" = true) (k32 : PySem.W.keepIn K (.ref f32) = true)
    (a33 : PySem.W.nsIn K mainGlobals "_law_right" = some (some (.ref f33)))
    (l33 : K.lookup f33 = some ⟨oc33, od33, .func (PySem.W.fnOf "_law_right" "_law_right" (defArgs st_law_right) (defBody st_law_right) (defScope st_law_right) .none kV33 dc33 pm33 an33 cd33 ct33), sl33⟩) (c33 : PySem.W.codeIn K cd33 "_law_right" = true) (k33 : PySem.W.keepIn K (.ref f33) = true)
    (a34 : PySem.W.nsIn K mainGlobals "law" = some (some (.ref f34)))
    (l34 : K.lookup f34 = some ⟨oc34, od34, .func (PySem.W.fnOf "law" "law" (defArgs st_law) (defBody st_law) (defScope st_law) .none kV34 dc34 pm34 an34 cd34 ct34), sl34⟩) (c34 : PySem.W.codeIn K cd34 "law" = true) (k34 : PySem.W.keepIn K (.ref f34) = true)
    (aC : PySem.W.nsIn K mainGlobals "Expression" = some (some (.ref C))) (pg : PySem.W.plainGet K C Str.empty = true) (hd : PySem.W.hasDictIn K C = true) (po : PySem.W.plainOver K C = true) (sa : PySem.W.findIn K (.ref C) "__setattr__" = some (some (.builtin "object.__setattr__")))
    (mk : PySem.W.makesIn K C = true) (kc : PySem.W.keepIn K (.ref C) = true) (nT : PySem.W.findIn K (.ref C) "tree_form" = some none) (rd : PySem.W.readsIn K C (.type "type") = true) (ga : PySem.W.specialIn K (.ref C) "__getattribute__" = some (some (.builtin "type.__getattribute__")))
    (aI : PySem.W.findIn K (.ref C) "__init__" = some (some (.ref fI))) (iI : PySem.W.isFn K (.ref fI) = true)
    (lI : K.lookup fI = some ⟨ocI, odI, .func (PySem.W.fnOf "__init__" "Expression.__init__" (defArgs st_Expression___init) (defBody st_Expression___init) (defScope st_Expression___init) .none kVI dcI pmI anI cdI ctI), slI⟩) (cI : PySem.W.codeIn K cdI "Expression.__init__" = true) (kI : PySem.W.keepIn K (.ref fI) = true)
    (aM : PySem.W.findCls K (.ref C) (.type "type") "read" = some (.get (.builtin "classmethod.__get__") (.ref pM) .none (.ref C))) (rM : PySem.W.recIn K pM "classmethod" = some (.ref fM :: rsM)) (nM : PySem.W.fnIn K fM = true)
    (lM : K.lookup fM = some ⟨ocM, odM, .func (PySem.W.fnOf "read" "Expression.read" (defArgs st_Expression_read) (defBody st_Expression_read) (defScope st_Expression_read) .none kVM dcM pmM anM cdM ctM), slM⟩) (cM : PySem.W.codeIn K cdM "Expression.read" = true) (kM : PySem.W.keepIn K (.ref fM) = true)
    (aR : PySem.W.findIn K (.ref C) "reads" = some (some (.ref pR))) (gR : PySem.W.specialIn K (.ref pR) "__get__" = some (some (.builtin "property.__get__"))) (tR : PySem.W.takesIn K (.ref pR) = some true) (rR : PySem.W.recIn K pR "property" = some (.ref fR :: rsR))
    (lR : K.lookup fR = some ⟨ocR, odR, .func (PySem.W.fnOf "reads" "Expression.reads" (defArgs st_Expression_reads) (defBody st_Expression_reads) (defScope st_Expression_reads) .none kVR dcR pmR anR cdR ctR), slR⟩) (cR : PySem.W.codeIn K cdR "Expression.reads" = true) (kR : PySem.W.keepIn K (.ref fR) = true)
    (aV : PySem.W.findIn K (.ref C) "variables" = some (some (.ref pV))) (gV : PySem.W.specialIn K (.ref pV) "__get__" = some (some (.builtin "property.__get__"))) (tV : PySem.W.takesIn K (.ref pV) = some true) (rV : PySem.W.recIn K pV "property" = some (.ref fV :: rsV))
    (lV : K.lookup fV = some ⟨ocV, odV, .func (PySem.W.fnOf "variables" "Expression.variables" (defArgs st_Expression_variables) (defBody st_Expression_variables) (defScope st_Expression_variables) .none kVV dcV pmV anV cdV ctV), slV⟩) (cV : PySem.W.codeIn K cdV "Expression.variables" = true) (kV : PySem.W.keepIn K (.ref fV) = true)
    (aA : PySem.W.findIn K (.ref C) "__call__" = some (some (.ref fA))) (iA : PySem.W.isFn K (.ref fA) = true) (nA : PySem.W.fnIn K fA = true)
    (lA : K.lookup fA = some ⟨ocA, odA, .func (PySem.W.fnOf "__call__" "Expression.__call__" (defArgs st_Expression___call) (defBody st_Expression___call) (defScope st_Expression___call) .none kVA dcA pmA anA cdA ctA), slA⟩) (cA : PySem.W.codeIn K cdA "Expression.__call__" = true) (kA : PySem.W.keepIn K (.ref fA) = true)
    (z_len : PySem.W.nsIn K mainGlobals "len" = some none)
    (z_isi : PySem.W.nsIn K mainGlobals "isinstance" = some none)
    (z_all : PySem.W.nsIn K mainGlobals "all" = some none)
    (z_srt : PySem.W.nsIn K mainGlobals "sorted" = some none)
    (z_tup : PySem.W.nsIn K mainGlobals "tuple" = some none)
    (z_rng : PySem.W.nsIn K mainGlobals "range" = some none)
    (z_sum : PySem.W.nsIn K mainGlobals "sum" = some none)
    (z_str : PySem.W.nsIn K mainGlobals "str" = some none)
    (z_int : PySem.W.nsIn K mainGlobals "int" = some none)
    (z_bool : PySem.W.nsIn K mainGlobals "bool" = some none)
    (z_dict : PySem.W.nsIn K mainGlobals "dict" = some none)
    (z_max : PySem.W.nsIn K mainGlobals "max" = some none)
    (z_min : PySem.W.nsIn K mainGlobals "min" = some none)
    (z_abs : PySem.W.nsIn K mainGlobals "abs" = some none)
    (z_dvm : PySem.W.nsIn K mainGlobals "divmod" = some none)
    (z_zip : PySem.W.nsIn K mainGlobals "zip" = some none)
    (z_elems : PySem.W.nsIn K mainGlobals "MAX_ELEMENTS" = some (some (.int 60 t_elems)))
    (z_levels : PySem.W.nsIn K mainGlobals "MAX_LEVELS" = some (some (.int 6 t_levels)))
    (z_letters : PySem.W.nsIn K mainGlobals "LETTERS" = some (some (.str "abcdefghijklmnopqrstuvwxyz" t_letters)))
    (z_digits : PySem.W.nsIn K mainGlobals "DIGITS" = some (some (.str "0123456789" t_digits)))
    (z_mlev : PySem.W.nsIn K mainGlobals "MOST_LEVELS" = some (some (.int 8 t_mlev)))
    (z_mdig : PySem.W.nsIn K mainGlobals "MOST_DIGITS" = some (some (.int 15 t_mdig)))
    (z_mchr : PySem.W.nsIn K mainGlobals "MOST_CHARS" = some (some (.int 60 t_mchr)))
    (aN : PySem.W.nsIn K mainGlobals "NOT_VARIABLES" = some (some (.ref aNV))) (lN : K.lookup aNV = some ⟨.type "tuple", odN, .seq #[.str "true" tN1, .str "false" tN2, .str "self" tN3] nN, slN⟩)
    (aO : PySem.W.nsIn K mainGlobals "OPEN" = some (some (.ref aOP))) (lO : K.lookup aOP = some ⟨.type "tuple", odO, .seq #[.str "sum" tO1, .str "joined" tO2] nO, slO⟩)
    (aL : PySem.W.nsIn K mainGlobals "LEAST" = some (some (.ref aLE))) (lL : K.lookup aLE = some ⟨.type "dict", none, .dict es nL, #[]⟩) (kl : PySem.W.KeysLit w.params es.toList) (sm : (aLE == sysModules) = false)
    (ke : es.toList.map (fun en => match en.key with | .str x _ => some x | _ => none) = wordsL.map some)
    (v0 : PySem.W.nsIn K aLE "equal" = some (some (.int 2 tL0)))
    (v1 : PySem.W.nsIn K aLE "less" = some (some (.int 2 tL1)))
    (v2 : PySem.W.nsIn K aLE "not" = some (some (.int 1 tL2)))
    (v3 : PySem.W.nsIn K aLE "both" = some (some (.int 2 tL3)))
    (v4 : PySem.W.nsIn K aLE "either" = some (some (.int 2 tL4)))
    (v5 : PySem.W.nsIn K aLE "sum" = some (some (.int 1 tL5)))
    (v6 : PySem.W.nsIn K aLE "joined" = some (some (.int 1 tL6)))
    (v7 : PySem.W.nsIn K aLE "size" = some (some (.int 1 tL7)))
    (v8 : PySem.W.nsIn K aLE "has" = some (some (.int 1 tL8)))
    (v9 : PySem.W.nsIn K aLE "or_else" = some (some (.int 2 tL9))) :
    ∃ fd : FuncData, (∀ (s : Shared) (v : Value), BindsTo s fd ⟨[v], []⟩ [("_law_script", v)]) ∧ ∀ base : Heap, K.In base → base.Ns mainGlobals mg → FnOk l.prog w K mg base CX0 22 fa fd ["_law_script"] (spLaw K) := by
  have e := hfa.symm.trans (PySem.W.mg_of X G a34)
  cases e
  have T : Bi mg := ⟨PySem.W.mg_none_of X G z_len, PySem.W.mg_none_of X G z_isi, PySem.W.mg_none_of X G z_all, PySem.W.mg_none_of X G z_srt, PySem.W.mg_none_of X G z_tup, PySem.W.mg_none_of X G z_rng, PySem.W.mg_none_of X G z_sum, PySem.W.mg_none_of X G z_str, PySem.W.mg_none_of X G z_int, PySem.W.mg_none_of X G z_bool, PySem.W.mg_none_of X G z_dict, PySem.W.mg_none_of X G z_max, PySem.W.mg_none_of X G z_min, PySem.W.mg_none_of X G z_abs, PySem.W.mg_none_of X G z_dvm, PySem.W.mg_none_of X G z_zip, ⟨_, PySem.W.mg_of X G z_elems, _, rfl⟩, ⟨_, PySem.W.mg_of X G z_levels, _, rfl⟩, ⟨_, PySem.W.mg_of X G z_letters, _, rfl⟩, ⟨_, PySem.W.mg_of X G z_digits, _, rfl⟩, ⟨_, PySem.W.mg_of X G z_mlev, _, rfl⟩, ⟨_, PySem.W.mg_of X G z_mdig, _, rfl⟩, ⟨_, PySem.W.mg_of X G z_mchr, _, rfl⟩⟩
  have TK : Kx K mg := ⟨⟨aNV, PySem.W.mg_of X G aN, fun H => .inr ⟨_, _, nN, lN, rfl, rfl, by show 3 ≤ sizeLine; decide, .cons ⟨_, rfl⟩ (.cons ⟨_, rfl⟩ (.cons ⟨_, rfl⟩ .nil))⟩⟩, ⟨aOP, PySem.W.mg_of X G aO, fun H => .inr ⟨_, _, nO, lO, rfl, rfl, by show 2 ≤ sizeLine; decide, .cons ⟨_, rfl⟩ (.cons ⟨_, rfl⟩ .nil)⟩⟩⟩
  have TL : Kl K w mg := by
    refine ⟨aLE, PySem.W.mg_of X G aL, ⟨es, nL, lL, sm, ?_, fun i x hx => ?_⟩, fun v => ?_⟩
    · have := congrArg List.length ke
      simpa using this
    · have h1 := congrArg (fun l => l[i]?) ke
      simp only [List.getElem?_map, hx, Option.map_some, Array.getElem?_toList] at h1
      cases he : es[i]? with
      | none => rw [he] at h1; cases h1
      | some en =>
        rw [he, Option.map_some] at h1
        refine ⟨en, ?_⟩
        cases hk : en.key with
        | str y t =>
          rw [hk] at h1
          have h2 := Option.some.inj (Option.some.inj h1)
          subst h2
          exact ⟨t, rfl, rfl⟩
        | _ => rw [hk] at h1; cases (Option.some.inj h1)
    · cases v with
      | equal => exact ⟨es, nL, _, lL, kl, v0, _, rfl⟩
      | less => exact ⟨es, nL, _, lL, kl, v1, _, rfl⟩
      | not => exact ⟨es, nL, _, lL, kl, v2, _, rfl⟩
      | both => exact ⟨es, nL, _, lL, kl, v3, _, rfl⟩
      | either => exact ⟨es, nL, _, lL, kl, v4, _, rfl⟩
      | sum => exact ⟨es, nL, _, lL, kl, v5, _, rfl⟩
      | joined => exact ⟨es, nL, _, lL, kl, v6, _, rfl⟩
      | size => exact ⟨es, nL, _, lL, kl, v7, _, rfl⟩
      | has => exact ⟨es, nL, _, lL, kl, v8, _, rfl⟩
      | orElse => exact ⟨es, nL, _, lL, kl, v9, _, rfl⟩
  have D_is_name : Df K mg "is_name" ["thing"] st_is_name := ⟨f0, _, fun_mk l0 c0 k0, PySem.W.mg_of X G a0, (fun_mk l0 c0 k0).binds (ps := ["thing"]) fun _ _ _ _ _ _ us hl => match us, hl with | [_], _ => rfl⟩
  have D_has_level : Df K mg "has_level" ["thing", "most"] st_has_level := ⟨f1, _, fun_mk l1 c1 k1, PySem.W.mg_of X G a1, (fun_mk l1 c1 k1).binds (ps := ["thing", "most"]) fun _ _ _ _ _ _ us hl => match us, hl with | [_, _], _ => rfl⟩
  have D_same_values : Df K mg "same_values" ["one", "other"] st_same_values := ⟨f2, _, fun_mk l2 c2 k2, PySem.W.mg_of X G a2, (fun_mk l2 c2 k2).binds (ps := ["one", "other"]) fun _ _ _ _ _ _ us hl => match us, hl with | [_, _], _ => rfl⟩
  have D_value_at : Df K mg "value_at" ["names", "values"] st_value_at := ⟨f3, _, fun_mk l3 c3 k3, PySem.W.mg_of X G a3, (fun_mk l3 c3 k3).binds (ps := ["names", "values"]) fun _ _ _ _ _ _ us hl => match us, hl with | [_, _], _ => rfl⟩
  have D_name_from : Df K mg "name_from" ["text", "at"] st_name_from := ⟨f4, _, fun_mk l4 c4 k4, PySem.W.mg_of X G a4, (fun_mk l4 c4 k4).binds (ps := ["text", "at"]) fun _ _ _ _ _ _ us hl => match us, hl with | [_, _], _ => rfl⟩
  have D_is_value : Df K mg "is_value" ["thing"] st_is_value := ⟨f5, _, fun_mk l5 c5 k5, PySem.W.mg_of X G a5, (fun_mk l5 c5 k5).binds (ps := ["thing"]) fun _ _ _ _ _ _ us hl => match us, hl with | [_], _ => rfl⟩
  have D_same : Df K mg "same" ["one", "other"] st_same := ⟨f6, _, fun_mk l6 c6 k6, PySem.W.mg_of X G a6, (fun_mk l6 c6 k6).binds (ps := ["one", "other"]) fun _ _ _ _ _ _ us hl => match us, hl with | [_, _], _ => rfl⟩
  have D_read_quoted : Df K mg "read_quoted" ["text", "at"] st_read_quoted := ⟨f7, _, fun_mk l7 c7 k7, PySem.W.mg_of X G a7, (fun_mk l7 c7 k7).binds (ps := ["text", "at"]) fun _ _ _ _ _ _ us hl => match us, hl with | [_, _], _ => rfl⟩
  have D_read_digits : Df K mg "read_digits" ["text", "at"] st_read_digits := ⟨f8, _, fun_mk l8 c8 k8, PySem.W.mg_of X G a8, (fun_mk l8 c8 k8).binds (ps := ["text", "at"]) fun _ _ _ _ _ _ us hl => match us, hl with | [_, _], _ => rfl⟩
  have D_read_variable : Df K mg "read_variable" ["text", "at"] st_read_variable := ⟨f9, _, fun_mk l9 c9 k9, PySem.W.mg_of X G a9, (fun_mk l9 c9 k9).binds (ps := ["text", "at"]) fun _ _ _ _ _ _ us hl => match us, hl with | [_, _], _ => rfl⟩
  have D_read_call : Df K mg "read_call" ["text", "at", "word", "level"] st_read_call := ⟨f10, _, fun_mk l10 c10 k10, PySem.W.mg_of X G a10, (fun_mk l10 c10 k10).binds (ps := ["text", "at", "word", "level"]) fun _ _ _ _ _ _ us hl => match us, hl with | [_, _, _, _], _ => rfl⟩
  have D_read_tree : Df K mg "read_tree" ["text", "at", "level"] st_read_tree := ⟨f11, _, fun_mk l11 c11 k11, PySem.W.mg_of X G a11, (fun_mk l11 c11 k11).binds (ps := ["text", "at", "level"]) fun _ _ _ _ _ _ us hl => match us, hl with | [_, _, _], _ => rfl⟩
  have D_parse_expression : Df K mg "parse_expression" ["text"] st_parse_expression := ⟨f12, _, fun_mk l12 c12 k12, PySem.W.mg_of X G a12, (fun_mk l12 c12 k12).binds (ps := ["text"]) fun _ _ _ _ _ _ us hl => match us, hl with | [_], _ => rfl⟩
  have D_value_of : Df K mg "value_of" ["tree", "values"] st_value_of := ⟨f13, _, fun_mk l13 c13 k13, PySem.W.mg_of X G a13, (fun_mk l13 c13 k13).binds (ps := ["tree", "values"]) fun _ _ _ _ _ _ us hl => match us, hl with | [_, _], _ => rfl⟩
  have D_applied : Df K mg "applied" ["word", "found"] st_applied := ⟨f14, _, fun_mk l14 c14 k14, PySem.W.mg_of X G a14, (fun_mk l14 c14 k14).binds (ps := ["word", "found"]) fun _ _ _ _ _ _ us hl => match us, hl with | [_, _], _ => rfl⟩
  have D_reads_of : Df K mg "reads_of" ["tree"] st_reads_of := ⟨f15, _, fun_mk l15 c15 k15, PySem.W.mg_of X G a15, (fun_mk l15 c15 k15).binds (ps := ["tree"]) fun _ _ _ _ _ _ us hl => match us, hl with | [_], _ => rfl⟩
  have D__law_cell : Df K mg "_law_cell" ["_law_script", "_law_k"] st_law_cell := ⟨f16, _, fun_mk l16 c16 k16, PySem.W.mg_of X G a16, (fun_mk l16 c16 k16).binds (ps := ["_law_script", "_law_k"]) fun _ _ _ _ _ _ us hl => match us, hl with | [_, _], _ => rfl⟩
  have D__law_pool : Df K mg "_law_pool" ["_law_cell_here"] st_law_pool := ⟨f17, _, fun_mk l17 c17 k17, PySem.W.mg_of X G a17, (fun_mk l17 c17 k17).binds (ps := ["_law_cell_here"]) fun _ _ _ _ _ _ us hl => match us, hl with | [_], _ => rfl⟩
  have D__law_draw : Df K mg "_law_draw" ["_law_pool_here", "_law_many"] st_law_draw := ⟨f18, _, fun_mk l18 c18 k18, PySem.W.mg_of X G a18, (fun_mk l18 c18 k18).binds (ps := ["_law_pool_here", "_law_many"]) fun _ _ _ _ _ _ us hl => match us, hl with | [_, _], _ => rfl⟩
  have D__law_words : Df K mg "_law_words" ["_law_pool_here", "_law_many"] st_law_words := ⟨f19, _, fun_mk l19 c19 k19, PySem.W.mg_of X G a19, (fun_mk l19 c19 k19).binds (ps := ["_law_pool_here", "_law_many"]) fun _ _ _ _ _ _ us hl => match us, hl with | [_, _], _ => rfl⟩
  have D__law_chars : Df K mg "_law_chars" ["_law_pool_here"] st_law_chars := ⟨f20, _, fun_mk l20 c20 k20, PySem.W.mg_of X G a20, (fun_mk l20 c20 k20).binds (ps := ["_law_pool_here"]) fun _ _ _ _ _ _ us hl => match us, hl with | [_], _ => rfl⟩
  have D__law_form : Df K mg "_law_form" ["_law_pool_here", "_law_deep"] st_law_form := ⟨f21, _, fun_mk l21 c21 k21, PySem.W.mg_of X G a21, (fun_mk l21 c21 k21).binds (ps := ["_law_pool_here", "_law_deep"]) fun _ _ _ _ _ _ us hl => match us, hl with | [_, _], _ => rfl⟩
  have D__law_thing_of : Df K mg "_law_thing_of" ["_law_pool_here", "_law_form_here"] st_law_thing_of := ⟨f22, _, fun_mk l22 c22 k22, PySem.W.mg_of X G a22, (fun_mk l22 c22 k22).binds (ps := ["_law_pool_here", "_law_form_here"]) fun _ _ _ _ _ _ us hl => match us, hl with | [_, _], _ => rfl⟩
  have D__law_reads : Df K mg "_law_reads" ["_law_scope_here"] st_law_reads := ⟨f23, _, fun_mk l23 c23 k23, PySem.W.mg_of X G a23, (fun_mk l23 c23 k23).binds (ps := ["_law_scope_here"]) fun _ _ _ _ _ _ us hl => match us, hl with | [_], _ => rfl⟩
  have D__law_expr : Df K mg "_law_expr" ["_law_pool_here", "_law_scope_here", "_law_kind", "_law_deep"] st_law_expr := ⟨f24, _, fun_mk l24 c24 k24, PySem.W.mg_of X G a24, (fun_mk l24 c24 k24).binds (ps := ["_law_pool_here", "_law_scope_here", "_law_kind", "_law_deep"]) fun _ _ _ _ _ _ us hl => match us, hl with | [_, _, _, _], _ => rfl⟩
  have D__law_call : Df K mg "_law_call" ["_law_pool_here", "_law_scope_here", "_law_kind", "_law_deep"] st_law_call := ⟨f25, _, fun_mk l25 c25 k25, PySem.W.mg_of X G a25, (fun_mk l25 c25 k25).binds (ps := ["_law_pool_here", "_law_scope_here", "_law_kind", "_law_deep"]) fun _ _ _ _ _ _ us hl => match us, hl with | [_, _, _, _], _ => rfl⟩
  have D__law_expr_text : Df K mg "_law_expr_text" ["_law_tree_here"] st_law_expr_text := ⟨f26, _, fun_mk l26 c26 k26, PySem.W.mg_of X G a26, (fun_mk l26 c26 k26).binds (ps := ["_law_tree_here"]) fun _ _ _ _ _ _ us hl => match us, hl with | [_], _ => rfl⟩
  have D__law_fields : Df K mg "_law_fields" ["_law_pool_here"] st_law_fields := ⟨f27, _, fun_mk l27 c27 k27, PySem.W.mg_of X G a27, (fun_mk l27 c27 k27).binds (ps := ["_law_pool_here"]) fun _ _ _ _ _ _ us hl => match us, hl with | [_], _ => rfl⟩
  have D__law_scope : Df K mg "_law_scope" ["_law_fields_here"] st_law_scope := ⟨f28, _, fun_mk l28 c28 k28, PySem.W.mg_of X G a28, (fun_mk l28 c28 k28).binds (ps := ["_law_fields_here"]) fun _ _ _ _ _ _ us hl => match us, hl with | [_], _ => rfl⟩
  have D__law_things : Df K mg "_law_things" ["_law_pool_here", "_law_fields_here"] st_law_things := ⟨f29, _, fun_mk l29 c29 k29, PySem.W.mg_of X G a29, (fun_mk l29 c29 k29).binds (ps := ["_law_pool_here", "_law_fields_here"]) fun _ _ _ _ _ _ us hl => match us, hl with | [_, _], _ => rfl⟩
  have D__law_at : Df K mg "_law_at" ["_law_names", "_law_env"] st_law_at := ⟨f30, _, fun_mk l30 c30 k30, PySem.W.mg_of X G a30, (fun_mk l30 c30 k30).binds (ps := ["_law_names", "_law_env"]) fun _ _ _ _ _ _ us hl => match us, hl with | [_, _], _ => rfl⟩
  have D__law_mixed : Df K mg "_law_mixed" ["_law_expression_here", "_law_first", "_law_second"] st_law_mixed := ⟨f31, _, fun_mk l31 c31 k31, PySem.W.mg_of X G a31, (fun_mk l31 c31 k31).binds (ps := ["_law_expression_here", "_law_first", "_law_second"]) fun _ _ _ _ _ _ us hl => match us, hl with | [_, _, _], _ => rfl⟩
  have D__law_less : Df K mg "_law_less" ["_law_expression_here", "_law_env"] st_law_less := ⟨f32, _, fun_mk l32 c32 k32, PySem.W.mg_of X G a32, (fun_mk l32 c32 k32).binds (ps := ["_law_expression_here", "_law_env"]) fun _ _ _ _ _ _ us hl => match us, hl with | [_, _], _ => rfl⟩
  have D__law_right : Df K mg "_law_right" ["_law_pool_here"] st_law_right := ⟨f33, _, fun_mk l33 c33 k33, PySem.W.mg_of X G a33, (fun_mk l33 c33 k33).binds (ps := ["_law_pool_here"]) fun _ _ _ _ _ _ us hl => match us, hl with | [_], _ => rfl⟩
  have F34 := fun_mk (st := st_law) l34 c34 k34
  have FI := fun_mk (st := st_Expression___init) lI cI kI
  have bI := FI.binds (ps := ["self", "tree"]) fun _ _ _ _ _ _ us hl => match us, hl with | [_, _], _ => rfl
  have FM := fun_mk (st := st_Expression_read) lM cM kM
  have bM := FM.binds (ps := ["cls", "text"]) fun _ _ _ _ _ _ us hl => match us, hl with | [_, _], _ => rfl
  have FR := fun_mk (st := st_Expression_reads) lR cR kR
  have bR := FR.binds (ps := ["self"]) fun _ _ _ _ _ _ us hl => match us, hl with | [_], _ => rfl
  have FV := fun_mk (st := st_Expression_variables) lV cV kV
  have bV := FV.binds (ps := ["self"]) fun _ _ _ _ _ _ us hl => match us, hl with | [_], _ => rfl
  have FA := fun_mk (st := st_Expression___call) lA cA kA
  have bA := FA.binds (ps := ["self", "values"]) fun _ _ _ _ _ _ us hl => match us, hl with | [_, _], _ => rfl
  have Z : Ec K mg C := ⟨⟨pg, hd, po, sa⟩, nT, PySem.W.mg_of X G aC⟩
  refine ⟨PySem.W.fnOf "law" "law" (defArgs st_law) (defBody st_law) (defScope st_law) .none kV34 dc34 pm34 an34 cd34 ct34, fun s v => .of_eq rfl, fun base _ _ => ?_⟩
  have P_is_name := ok_is_name (P := l.prog) (w := w) (base := base) T D_is_name
  have P_name_from := ok_name_from (P := l.prog) (w := w) (base := base) T D_name_from
  have P_value_at := ok_value_at (P := l.prog) (w := w) (base := base) D_value_at
  have P_read_quoted := ok_read_quoted (P := l.prog) (w := w) (base := base) T D_read_quoted
  have P_read_digits := ok_read_digits (P := l.prog) (w := w) (base := base) T D_read_digits
  have P_read_variable := ok_read_variable (P := l.prog) (w := w) (base := base) T TK D_read_variable P_name_from P_is_name
  have P_read_tree := tree_all (P := l.prog) (w := w) (base := base) T TK TL D_read_tree D_read_call P_read_quoted P_read_digits P_read_variable P_name_from 8
  have P_parse := ok_parse_expression T D_parse_expression P_read_tree
  have P_same_values := same_all (P := l.prog) (w := w) (base := base) T D_same_values
  have P_has_level := has_all (P := l.prog) (w := w) (base := base) T D_has_level P_is_name
  have P_is_value := ok_is_value T D_is_value (P_has_level 7)
  have P_same := ok_same T D_same P_is_value (P_same_values 9)
  have P_applied := ok_applied T D_applied (P_same_values 1)
  have P_value_of := value_all T D_value_of P_value_at P_applied
  have P_reads_of := reads_all (P := l.prog) (w := w) (base := base) T D_reads_of
  have MkI : Mk K C fI := ⟨mk, aI, iI, kc⟩
  have P_init := ok_init (P := l.prog) (w := w) (base := base) FI Z
  have P_eread := ok_eread FM Z MkI P_init bI P_parse
  have P_ereads := ok_ereads T FR Z (P_reads_of 4)
  have P_evars := ok_evars T FV Z (P_reads_of 4)
  have P_ecall := ok_ecall FA Z (P_value_of 4)
  have P_cell := ok_cell (P := l.prog) (w := w) (base := base) T D__law_cell
  have P_pool := ok_pool (P := l.prog) (w := w) (base := base) T D__law_pool
  have P_draw := ok_draw (P := l.prog) (w := w) (base := base) T D__law_draw
  have P_words := ok_words T D__law_words P_draw
  have P_chars := ok_chars T D__law_chars P_draw
  have P_form := form_all T D__law_form P_draw P_words
  have P_thing := thing_all T D__law_thing_of P_draw P_chars
  have P_lreads := ok_lreads (P := l.prog) (w := w) (base := base) T D__law_reads
  have P_expr := expr_all T D__law_expr D__law_call P_draw P_lreads
  have P_text := text_all (P := l.prog) (w := w) (base := base) T D__law_expr_text
  have P_fields := ok_fields T D__law_fields P_draw P_words (P_form 3)
  have P_scope := ok_scope (P := l.prog) (w := w) (base := base) T D__law_scope
  have P_things := ok_things T D__law_things (P_thing 10)
  have P_at := ok_at (P := l.prog) (w := w) (base := base) D__law_at
  have P_mixed := ok_mixed T D__law_mixed Z ⟨aV, gV, tV, _, rV⟩ P_evars bV
  have P_less := ok_less T D__law_less Z ⟨aV, gV, tV, _, rV⟩ P_evars bV
  have P_right := ok_right T D__law_right Z ⟨rd, ga⟩ ⟨aM, ⟨_, rM⟩, nM⟩ (fnr P_eread bM) ⟨aA, iA, nA⟩ (fnr P_ecall bA) ⟨aR, gR, tR, _, rR⟩ P_ereads bR P_draw P_fields P_scope P_things (P_expr 4) (P_text 4) P_same P_mixed P_less P_at
  exact ok_law T F34 P_cell P_pool P_right
theorem walk {l : PySem.W.OpenLaw} {q : Program} {loose : List Str} {XP : (Str → Option Value) → Heap → Prop} {YP : World → Heap → Prop} {d : DefRec} {K : Params → PySem.W.Frag} (hn : l.most = some 63) (hdf : d.params.defaults = [])
    (hY : ∀ (w : World) (h : Heap), YP w h → (K w.params).In h)
    (F : ∀ (w : World) (mg : Str → Option Value) (fa : Addr) (h : Heap), (K w.params).In h → h.Ns mainGlobals mg → mg d.name = some (.ref fa) →
      ∃ fd : FuncData, (∀ (s : Shared) (u : Value), BindsTo s fd ⟨[u], []⟩ [("_law_script", u)]) ∧ ∀ base : Heap, (K w.params).In base → base.Ns mainGlobals mg → FnOk l.prog w (K w.params) mg base CX0 22 fa fd ["_law_script"] (spLaw (K w.params))) :
    PySem.W.WalkO q loose XP YP l.row.toRowW d [] (fun f vs => PySem.call f vs) :=
  L2.walk_of (n := 63) (k := 22) (x := "_law_script") (CX := fun _ => CX0) (sp := fun w => spLaw (K w.params)) hn (by decide) hdf ⟨rfl, by decide, by decide⟩ hY F (fun _ _ a ns hl _ hS => ⟨a, ns, rfl, hS, fun _ => rfl⟩) fun _ _ _ _ _ z => z
end RT
open PySem PySem.W PyProof.Rows
set_option maxRecDepth 100000 in
set_option maxHeartbeats 0 in
open_top headA for PySem.Challenge.rw_shapekeep_k90_whole_reads_tell_all
set_option maxRecDepth 100000 in
set_option maxHeartbeats 0 in
theorem PySem.Challenge.cw_shapekeep_k90_whole_reads_tell_all_holds : PySem.Challenge.rw_shapekeep_k90_whole_reads_tell_all.Holds := by
  refine headA ?_
  k_fill
  refine RT.walk (l := PySem.Challenge.rw_shapekeep_k90_whole_reads_tell_all) rfl rfl (fun w h Y => PySem.W.kIn_of Y) ?F
  case F =>
    intro w mg fa h KX G hmg
    refine' RT.all_mk KX G hmg ?a0 ?l0 ?c0 ?k0 ?a1 ?l1 ?c1 ?k1 ?a2 ?l2 ?c2 ?k2 ?a3 ?l3 ?c3 ?k3 ?a4 ?l4 ?c4 ?k4 ?a5 ?l5 ?c5 ?k5 ?a6 ?l6 ?c6 ?k6 ?a7 ?l7 ?c7 ?k7 ?a8 ?l8 ?c8 ?k8 ?a9 ?l9 ?c9 ?k9 ?a10 ?l10 ?c10 ?k10 ?a11 ?l11 ?c11 ?k11 ?a12 ?l12 ?c12 ?k12 ?a13 ?l13 ?c13 ?k13 ?a14 ?l14 ?c14 ?k14 ?a15 ?l15 ?c15 ?k15 ?a16 ?l16 ?c16 ?k16 ?a17 ?l17 ?c17 ?k17 ?a18 ?l18 ?c18 ?k18 ?a19 ?l19 ?c19 ?k19 ?a20 ?l20 ?c20 ?k20 ?a21 ?l21 ?c21 ?k21 ?a22 ?l22 ?c22 ?k22 ?a23 ?l23 ?c23 ?k23 ?a24 ?l24 ?c24 ?k24 ?a25 ?l25 ?c25 ?k25 ?a26 ?l26 ?c26 ?k26 ?a27 ?l27 ?c27 ?k27 ?a28 ?l28 ?c28 ?k28 ?a29 ?l29 ?c29 ?k29 ?a30 ?l30 ?c30 ?k30 ?a31 ?l31 ?c31 ?k31 ?a32 ?l32 ?c32 ?k32 ?a33 ?l33 ?c33 ?k33 ?a34 ?l34 ?c34 ?k34 ?aC ?pg ?hd ?po ?sa ?mk ?kc ?nT ?rd ?ga ?aI ?iI ?lI ?cI ?kI ?aM ?rM ?nM ?lM ?cM ?kM ?aR ?gR ?tR ?rR ?lR ?cR ?kR ?aV ?gV ?tV ?rV ?lV ?cV ?kV ?aA ?iA ?nA ?lA ?cA ?kA ?z_len ?z_isi ?z_all ?z_srt ?z_tup ?z_rng ?z_sum ?z_str ?z_int ?z_bool ?z_dict ?z_max ?z_min ?z_abs ?z_dvm ?z_zip ?z_elems ?z_levels ?z_letters ?z_digits ?z_mlev ?z_mdig ?z_mchr ?aN ?lN ?aO ?lO ?aL ?lL ?kl ?sm ?ke ?v0 ?v1 ?v2 ?v3 ?v4 ?v5 ?v6 ?v7 ?v8 ?v9
    (case a0 => k_is)
    (case l0 => k_is)
    (case c0 => k_is)
    (case k0 => k_is)
    (case a1 => k_is)
    (case l1 => k_is)
    (case c1 => k_is)
    (case k1 => k_is)
    (case a2 => k_is)
    (case l2 => k_is)
    (case c2 => k_is)
    (case k2 => k_is)
    (case a3 => k_is)
    (case l3 => k_is)
    (case c3 => k_is)
    (case k3 => k_is)
    (case a4 => k_is)
    (case l4 => k_is)
    (case c4 => k_is)
    (case k4 => k_is)
    (case a5 => k_is)
    (case l5 => k_is)
    (case c5 => k_is)
    (case k5 => k_is)
    (case a6 => k_is)
    (case l6 => k_is)
    (case c6 => k_is)
    (case k6 => k_is)
    (case a7 => k_is)
    (case l7 => k_is)
    (case c7 => k_is)
    (case k7 => k_is)
    (case a8 => k_is)
    (case l8 => k_is)
    (case c8 => k_is)
    (case k8 => k_is)
    (case a9 => k_is)
    (case l9 => k_is)
    (case c9 => k_is)
    (case k9 => k_is)
    (case a10 => k_is)
    (case l10 => k_is)
    (case c10 => k_is)
    (case k10 => k_is)
    (case a11 => k_is)
    (case l11 => k_is)
    (case c11 => k_is)
    (case k11 => k_is)
    (case a12 => k_is)
    (case l12 => k_is)
    (case c12 => k_is)
    (case k12 => k_is)
    (case a13 => k_is)
    (case l13 => k_is)
    (case c13 => k_is)
    (case k13 => k_is)
    (case a14 => k_is)
    (case l14 => k_is)
    (case c14 => k_is)
    (case k14 => k_is)
    (case a15 => k_is)
    (case l15 => k_is)
    (case c15 => k_is)
    (case k15 => k_is)
    (case a16 => k_is)
    (case l16 => k_is)
    (case c16 => k_is)
    (case k16 => k_is)
    (case a17 => k_is)
    (case l17 => k_is)
    (case c17 => k_is)
    (case k17 => k_is)
    (case a18 => k_is)
    (case l18 => k_is)
    (case c18 => k_is)
    (case k18 => k_is)
    (case a19 => k_is)
    (case l19 => k_is)
    (case c19 => k_is)
    (case k19 => k_is)
    (case a20 => k_is)
    (case l20 => k_is)
    (case c20 => k_is)
    (case k20 => k_is)
    (case a21 => k_is)
    (case l21 => k_is)
    (case c21 => k_is)
    (case k21 => k_is)
    (case a22 => k_is)
    (case l22 => k_is)
    (case c22 => k_is)
    (case k22 => k_is)
    (case a23 => k_is)
    (case l23 => k_is)
    (case c23 => k_is)
    (case k23 => k_is)
    (case a24 => k_is)
    (case l24 => k_is)
    (case c24 => k_is)
    (case k24 => k_is)
    (case a25 => k_is)
    (case l25 => k_is)
    (case c25 => k_is)
    (case k25 => k_is)
    (case a26 => k_is)
    (case l26 => k_is)
    (case c26 => k_is)
    (case k26 => k_is)
    (case a27 => k_is)
    (case l27 => k_is)
    (case c27 => k_is)
    (case k27 => k_is)
    (case a28 => k_is)
    (case l28 => k_is)
    (case c28 => k_is)
    (case k28 => k_is)
    (case a29 => k_is)
    (case l29 => k_is)
    (case c29 => k_is)
    (case k29 => k_is)
    (case a30 => k_is)
    (case l30 => k_is)
    (case c30 => k_is)
    (case k30 => k_is)
    (case a31 => k_is)
    (case l31 => k_is)
    (case c31 => k_is)
    (case k31 => k_is)
    (case a32 => k_is)
    (case l32 => k_is)
    (case c32 => k_is)
    (case k32 => k_is)
    (case a33 => k_is)
    (case l33 => k_is)
    (case c33 => k_is)
    (case k33 => k_is)
    (case a34 => k_is)
    (case l34 => k_is)
    (case c34 => k_is)
    (case k34 => k_is)
    (case aC => k_is)
    (case pg => k_is)
    (case hd => k_is)
    (case po => k_is)
    (case sa => k_is)
    (case mk => k_is)
    (case kc => k_is)
    (case nT => k_is)
    (case rd => k_is)
    (case ga => k_is)
    (case aI => k_is)
    (case iI => k_is)
    (case lI => k_is)
    (case cI => k_is)
    (case kI => k_is)
    (case aM => k_is)
    (case rM => k_is)
    (case nM => k_is)
    (case lM => k_is)
    (case cM => k_is)
    (case kM => k_is)
    (case aR => k_is)
    (case gR => k_is)
    (case tR => k_is)
    (case rR => k_is)
    (case lR => k_is)
    (case cR => k_is)
    (case kR => k_is)
    (case aV => k_is)
    (case gV => k_is)
    (case tV => k_is)
    (case rV => k_is)
    (case lV => k_is)
    (case cV => k_is)
    (case kV => k_is)
    (case aA => k_is)
    (case iA => k_is)
    (case nA => k_is)
    (case lA => k_is)
    (case cA => k_is)
    (case kA => k_is)
    (case z_len => k_is)
    (case z_isi => k_is)
    (case z_all => k_is)
    (case z_srt => k_is)
    (case z_tup => k_is)
    (case z_rng => k_is)
    (case z_sum => k_is)
    (case z_str => k_is)
    (case z_int => k_is)
    (case z_bool => k_is)
    (case z_dict => k_is)
    (case z_max => k_is)
    (case z_min => k_is)
    (case z_abs => k_is)
    (case z_dvm => k_is)
    (case z_zip => k_is)
    (case z_elems => k_is)
    (case z_levels => k_is)
    (case z_letters => k_is)
    (case z_digits => k_is)
    (case z_mlev => k_is)
    (case z_mdig => k_is)
    (case z_mchr => k_is)
    (case aN => k_is)
    (case lN => k_is)
    (case aO => k_is)
    (case lO => k_is)
    (case aL => k_is)
    (case lL => k_is)
    (case kl => exact ⟨⟨_, _, rfl, rfl⟩, ⟨_, _, rfl, rfl⟩, ⟨_, _, rfl, rfl⟩, ⟨_, _, rfl, rfl⟩, ⟨_, _, rfl, rfl⟩, ⟨_, _, rfl, rfl⟩, ⟨_, _, rfl, rfl⟩, ⟨_, _, rfl, rfl⟩, ⟨_, _, rfl, rfl⟩, ⟨_, _, rfl, rfl⟩, trivial⟩)
    (case sm => rfl)
    (case ke => rfl)
    (case v0 => k_is)
    (case v1 => k_is)
    (case v2 => k_is)
    (case v3 => k_is)
    (case v4 => k_is)
    (case v5 => k_is)
    (case v6 => k_is)
    (case v7 => k_is)
    (case v8 => k_is)
    (case v9 => k_is)
