import PyProof.Rows.All
import Wide.All
import OpenK.AllK
import Wide.FinOn
import PySem.Challenge.RW_nz0499_01
set_option Elab.async false
set_option linter.all false
set_option genSizeOf false
set_option genInjectivity false
set_option bootstrap.genMatcherCode false
set_option maxHeartbeats 4000000
section
namespace Mine.Internal
inductive Cls where
  | null | vector | fit | design | terms
  deriving DecidableEq
inductive D where
  | any
  | none
  | bool (b : Bool)
  | int (i : Int)
  | str (s : String)
  | tup (ds : List D)
  | list (ds : List D)
  | src (ds : List D)
  | inst (c : Cls) (fs : List (String × D))
  | dict (kvs : List (String × D))
inductive T where
  | frz (d : D)
  | olist (ts : List T)
  | oinst (c : Cls) (fs : List (String × T))
  | odict (kvs : List (String × T))
  | oidict (kvs : List (Int × D))
mutual
noncomputable def T.freeze : T → D
  | .frz d => d
  | .olist ts => .list (freezeL ts)
  | .oinst c fs => .inst c (freezeF fs)
  | .odict fs => .dict (freezeF fs)
  | .oidict _ => .any
noncomputable def freezeL : List T → List D
  | [] => []
  | t :: ts => t.freeze :: freezeL ts
noncomputable def freezeF : List (String × T) → List (String × D)
  | [] => []
  | (n, t) :: ts => (n, if n = "shared" then .any else t.freeze) :: freezeF ts
end
noncomputable def D.int? : D → Option Int
  | .int i => some i
  | _ => Option.none
noncomputable def D.str? : D → Option String
  | .str i => some i
  | _ => Option.none
noncomputable def D.bool? : D → Option Bool
  | .bool i => some i
  | _ => Option.none
noncomputable def D.list? : D → Option (List D)
  | .list i => some i
  | _ => Option.none
noncomputable def D.seq? : D → Option (List D)
  | .list i => some i
  | .tup i => some i
  | _ => Option.none
noncomputable def D.src? : D → Option (List D)
  | .list i => some i
  | .src i => some i
  | _ => Option.none
noncomputable def D.inst? : D → Option (Cls × List (String × D))
  | .inst c i => some (c, i)
  | _ => Option.none
noncomputable def D.dict? : D → Option (List (String × D))
  | .dict i => some i
  | _ => Option.none
noncomputable def D.none? : D → Option Unit
  | .none => some ()
  | _ => Option.none
noncomputable def D.any? : D → Option Unit
  | .any => some ()
  | _ => Option.none
noncomputable def asD : T → Option D
  | .frz d => some d
  | .olist _ => none
  | .oinst _ _ => none
  | .odict _ => none
  | .oidict _ => none
noncomputable def asOl : T → Option (List T)
  | .olist l => some l
  | .frz _ => none
  | .oinst _ _ => none
  | .odict _ => none
  | .oidict _ => none
noncomputable def asInt (t : T) : Option Int := (asD t).bind D.int?
noncomputable def asStr (t : T) : Option String := (asD t).bind D.str?
noncomputable def l1 : List T → Option T
  | [] => none
  | a :: l => match l with
    | [] => some a
    | _ :: _ => none
noncomputable def l2 : List T → Option (T × T)
  | [] => none
  | a :: l => (l1 l).bind fun b => some (a, b)
abbrev Sg := List (Option T)
noncomputable def gv (σ : Sg) (i : Nat) : Option T := (σ[i]?).join
noncomputable def pyEqR (f : D → D → Option Bool) : List D → Option Bool
  | [] => some true
  | y :: ys => (f y y).bind fun _ => (pyEqR f ys).bind fun _ => some false
noncomputable def pyEqL (f : D → D → Option Bool) : List D → List D → Option Bool
  | [], ys => pyEqR f ys
  | x :: xs, ys => match ys with
    | [] => (f x x).bind fun _ => (pyEqL f xs []).bind fun _ => some false
    | y :: ys => (f x y).bind fun b => (pyEqL f xs ys).bind fun c => some (b && c)
noncomputable def pyEqS (a b : D) : Option Bool := match a with
  | .int a => match b with
    | .int b => some (decide (a = b))
    | .none => some false
    | _ => none
  | .str a => match b with
    | .str b => some (decide (a = b))
    | .none => some false
    | _ => none
  | .bool a => match b with
    | .bool b => some (decide (a = b))
    | _ => none
  | .none => match b with
    | .none => some true
    | .int _ => some false
    | .str _ => some false
    | _ => none
  | _ => none
noncomputable def pyEq : Nat → D → D → Option Bool
  | 0, a, b => pyEqS a b
  | k + 1, a, b => match a with
    | .tup a => match b with
      | .tup b => pyEqL (pyEq k) a b
      | _ => none
    | .list a => match b with
      | .list b => pyEqL (pyEq k) a b
      | _ => none
    | _ => pyEqS a b
noncomputable def pyIn (x : D) : List D → Option Bool
  | [] => some false
  | y :: ys => (pyEqS y x).bind fun b => (pyIn x ys).bind fun c => some (b || c)
noncomputable def strList : List D → Option (List String)
  | [] => some []
  | y :: ys => y.str?.bind fun y => (strList ys).bind fun r => some (y :: r)
noncomputable def sIndex (x : String) : List String → Option Nat
  | [] => none
  | y :: ys => if y = x then some 0 else (sIndex x ys).map (· + 1)
inductive Prim where
  | add | sub | mul | fdiv | mod
  | eq | ne | lt | le | gt | ge | isn | isnt | inn | nin
  | neg | attr (n : String) | item | len | abs | max | str | isi (c : Cls) | isstr | get | index
  deriving DecidableEq
noncomputable def pInts (f : Int → Int → Option D) (ts : List T) : Option T := (l2 ts).bind fun q => (asInt q.1).bind fun a => (asInt q.2).bind fun b => (f a b).bind fun d => some (.frz d)
noncomputable def addD (a b : D) : Option T := match a with
  | .int a => b.int?.bind fun b => some (.frz (.int (a + b)))
  | .str a => b.str?.bind fun b => if a.length + b.length ≤ 1000 then some (.frz (.str (a ++ b))) else none
  | _ => none
noncomputable def pAdd (ts : List T) : Option T := (l2 ts).bind fun q => (asD q.1).bind fun a => (asD q.2).bind fun b => addD a b
noncomputable def pInt (f : Int → Option D) (ts : List T) : Option T := (l1 ts).bind fun q => (asInt q).bind fun a => (f a).bind fun d => some (.frz d)
noncomputable def pEq (f : Bool → Bool) (ts : List T) : Option T := (l2 ts).bind fun q => (asD q.1).bind fun a => (asD q.2).bind fun b => (pyEq 4 a b).bind fun r => some (.frz (.bool (f r)))
noncomputable def isNone : D → Option Bool
  | .any => none
  | .none => some true
  | _ => some false
noncomputable def pIs (f : Bool → Bool) (ts : List T) : Option T := (l2 ts).bind fun q => (asD q.1).bind fun a => (asD q.2).bind fun b => b.none?.bind fun _ => (isNone a).bind fun r => some (.frz (.bool (f r)))
noncomputable def scalar : D → Bool
  | .none | .bool _ | .int _ | .str _ => true
  | _ => false
noncomputable def inT (f : Bool → Bool) (x : D) : T → Option T
  | .frz d => d.list?.bind fun l => if scalar x then (pyIn x l).bind fun r => some (.frz (.bool (f r))) else none
  | .oidict kvs => x.int?.bind fun x => if f true then some (.frz (.bool (kvs.lookup x).isSome)) else none
  | .olist _ => none
  | .oinst _ _ => none
  | .odict _ => none
noncomputable def pIn (f : Bool → Bool) (ts : List T) : Option T := (l2 ts).bind fun q => (asD q.1).bind fun x => inT f x q.2
noncomputable def notAny : D → Option T
  | .any => none
  | d => some (.frz d)
noncomputable def notAnyT : T → Option T
  | .frz d => notAny d
  | .olist l => some (.olist l)
  | .oinst c l => some (.oinst c l)
  | .odict l => some (.odict l)
  | .oidict l => some (.oidict l)
noncomputable def attrT (n : String) : T → Option T
  | .frz d => d.inst?.bind fun q => (q.2.lookup n).bind notAny
  | .oinst _ fs => (fs.lookup n).bind notAnyT
  | .olist _ => none
  | .odict _ => none
  | .oidict _ => none
noncomputable def pAttr (n : String) (ts : List T) : Option T := (l1 ts).bind (attrT n)
noncomputable def small (a : Int) : Bool := a.natAbs ≤ 1000
noncomputable def idx (k : Int) : Option Nat := if 0 ≤ k ∧ k ≤ 1000 then some k.toNat else none
noncomputable def itemD (d : D) (b : T) : Option T := match d with
  | .list l => (asInt b).bind fun k => (idx k).bind fun k => l[k]?.bind fun d => some (.frz d)
  | .tup l => (asInt b).bind fun k => (idx k).bind fun k => l[k]?.bind fun d => some (.frz d)
  | .dict l => (asStr b).bind fun k => (l.lookup k).bind fun d => some (.frz d)
  | _ => none
noncomputable def itemT (t b : T) : Option T := match t with
  | .frz d => itemD d b
  | .olist l => (asInt b).bind fun k => (idx k).bind fun k => l[k]?
  | .oinst _ _ => none
  | .odict l => (asStr b).bind fun k => l.lookup k
  | .oidict l => (asInt b).bind fun k => (l.lookup k).bind fun d => some (.frz d)
noncomputable def pItem (ts : List T) : Option T := (l2 ts).bind fun q => itemT q.1 q.2
noncomputable def lenD (n : Nat) : Option T := if n ≤ 1000 then some (.frz (.int n)) else none
noncomputable def lenT : T → Option T
  | .frz d => d.seq?.bind fun l => lenD l.length
  | .olist l => lenD l.length
  | .oinst _ _ => none
  | .odict _ => none
  | .oidict _ => none
noncomputable def pLen (ts : List T) : Option T := (l1 ts).bind lenT
noncomputable def pIsi (c : Cls) (ts : List T) : Option T := (l1 ts).bind fun t => (asD t).bind fun d => d.inst?.bind fun q => some (.frz (.bool (decide (c = q.1))))
noncomputable def isStrD : D → Option Bool
  | .inst _ _ => some false
  | .str _ => some true
  | _ => none
noncomputable def pIsStr (ts : List T) : Option T := (l1 ts).bind fun t => (asD t).bind fun d => (isStrD d).bind fun b => some (.frz (.bool b))
noncomputable def pGet (ts : List T) : Option T := (l2 ts).bind fun q => (asD q.1).bind fun d => d.dict?.bind fun l => (asStr q.2).bind fun k => some (.frz ((l.lookup k).getD .none))
noncomputable def pIndex (ts : List T) : Option T := (l2 ts).bind fun q => (asD q.1).bind fun d => d.list?.bind fun l => (asStr q.2).bind fun x =>
  if l.length ≤ 1000 then (strList l).bind fun ss => (sIndex x ss).bind fun (j : Nat) => some (.frz (.int (j : Int))) else none
noncomputable def fitsMul (a b : Int) : Bool := a.natAbs.log2 + b.natAbs.log2 + 2 ≤ 2 ^ 27
noncomputable def prim : Prim → List T → Option T
  | .add => pAdd
  | .sub => pInts fun a b => some (.int (a - b))
  | .mul => pInts fun a b => if fitsMul a b then some (.int (a * b)) else none
  | .fdiv => pInts fun a b => if b = 0 then none else some (.int (a.fdiv b))
  | .mod => pInts fun a b => if b = 0 then none else some (.int (a.fmod b))
  | .neg => pInt fun a => some (.int (-a))
  | .abs => pInt fun a => some (.int a.natAbs)
  | .max => pInts fun a b => some (.int (if a < b then b else a))
  | .eq => pEq id
  | .ne => pEq not
  | .lt => pInts fun a b => some (.bool (decide (a < b)))
  | .le => pInts fun a b => some (.bool (decide (a ≤ b)))
  | .gt => pInts fun a b => some (.bool (decide (b < a)))
  | .ge => pInts fun a b => some (.bool (decide (b ≤ a)))
  | .isn => pIs id
  | .isnt => pIs not
  | .inn => pIn id
  | .nin => pIn not
  | .attr n => pAttr n
  | .item => pItem
  | .len => pLen
  | .str => pInt fun a => if a.natAbs < 1000 then some (.str (toString a)) else none
  | .isi c => pIsi c
  | .isstr => pIsStr
  | .get => pGet
  | .index => pIndex
inductive P where
  | cst (d : D)
  | var (i : Nat)
  | glob (d : D)
  | op (o : Prim) (ps : List P)
mutual
noncomputable def pv (σ : Sg) : P → Option T
  | .cst d => some (.frz d)
  | .var i => gv σ i
  | .glob d => some (.frz d)
  | .op o ps => (pvs σ ps).bind (prim o)
noncomputable def pvs (σ : Sg) : List P → Option (List T)
  | [] => some []
  | p :: ps => (pv σ p).bind fun t => (pvs σ ps).bind fun ts => some (t :: ts)
end
inductive St where
  | attr (n : String)
  | item (p : P)
inductive Fn where
  | f_get_attr
  | f_names_of
  | f_dim_of
  | f_gcd
  | f_make
  | f_is_na
  | f_is_finite
  | f_marked
  | f_neg
  | f_add
  | f_sub
  | f_mul
  | f_div
  | f_weighted
  | f_dot
  | f_less_multiple
  | f_check_finite
  | f_check_weights
  | f_orthogonal
  | f_back_coefficients
  | f_used_rows
  | f_fit
  | f_rss
  | f_inverse_shares
  | f_unscaled_covariance
  | f_variance
  | f_covariance
  | f_f_value
  | iNull
  | iVector
  | f_null
  | f_integer
  | f_double
  | f_character
  | f_named
  | f_list_of
  | f_length
  | f_share
  | f_row_count
  | f_frame_of
  | f_frame_row_names
  | f_factor_levels
  | f_matrix_value
  | f_named_doubles
  | f_part
  | iDesign
  | f_fit_design
  | f_used_levels
  | f_releveled
  | f_spread_rows
  | f_vcov_matrix
  | f_weight_at
  | f_model_square
  | f_coefficient_matrix
  | f_summary_parts
  | iTerms
  | f_law_figures
  | f_law_next
  | f_law_low
  | f_law_add
  | f_law_mul
  | f_law_by
  | f_law_minus
  | f_law_dot
  | f_law_value
  | f_law_columns
  | f_law_square
  | f_law_releveled
  | f_law_factors
  | f_law_covariance
  | f_law
  deriving DecidableEq
noncomputable def fnName : Fn → String
  | .f_get_attr => "get_attr"
  | .f_names_of => "names_of"
  | .f_dim_of => "dim_of"
  | .f_gcd => "gcd"
  | .f_make => "make"
  | .f_is_na => "is_na"
  | .f_is_finite => "is_finite"
  | .f_marked => "marked"
  | .f_neg => "neg"
  | .f_add => "add"
  | .f_sub => "sub"
  | .f_mul => "mul"
  | .f_div => "div"
  | .f_weighted => "weighted"
  | .f_dot => "dot"
  | .f_less_multiple => "less_multiple"
  | .f_check_finite => "check_finite"
  | .f_check_weights => "check_weights"
  | .f_orthogonal => "orthogonal"
  | .f_back_coefficients => "back_coefficients"
  | .f_used_rows => "used_rows"
  | .f_fit => "fit"
  | .f_rss => "rss"
  | .f_inverse_shares => "inverse_shares"
  | .f_unscaled_covariance => "unscaled_covariance"
  | .f_variance => "variance"
  | .f_covariance => "covariance"
  | .f_f_value => "f_value"
  | .iNull => "Null.__init__"
  | .iVector => "Vector.__init__"
  | .f_null => "null"
  | .f_integer => "integer"
  | .f_double => "double"
  | .f_character => "character"
  | .f_named => "named"
  | .f_list_of => "list_of"
  | .f_length => "length"
  | .f_share => "share"
  | .f_row_count => "row_count"
  | .f_frame_of => "frame_of"
  | .f_frame_row_names => "frame_row_names"
  | .f_factor_levels => "factor_levels"
  | .f_matrix_value => "matrix_value"
  | .f_named_doubles => "named_doubles"
  | .f_part => "part"
  | .iDesign => "Design.__init__"
  | .f_fit_design => "fit_design"
  | .f_used_levels => "used_levels"
  | .f_releveled => "releveled"
  | .f_spread_rows => "spread_rows"
  | .f_vcov_matrix => "vcov_matrix"
  | .f_weight_at => "weight_at"
  | .f_model_square => "model_square"
  | .f_coefficient_matrix => "coefficient_matrix"
  | .f_summary_parts => "summary_parts"
  | .iTerms => "Terms.__init__"
  | .f_law_figures => "_law_figures"
  | .f_law_next => "_law_next"
  | .f_law_low => "_law_low"
  | .f_law_add => "_law_add"
  | .f_law_mul => "_law_mul"
  | .f_law_by => "_law_by"
  | .f_law_minus => "_law_minus"
  | .f_law_dot => "_law_dot"
  | .f_law_value => "_law_value"
  | .f_law_columns => "_law_columns"
  | .f_law_square => "_law_square"
  | .f_law_releveled => "_law_releveled"
  | .f_law_factors => "_law_factors"
  | .f_law_covariance => "_law_covariance"
  | .f_law => "law"
noncomputable def inout : List Fn := [.f_back_coefficients, .f_law_next, .f_law_value, .f_law_columns, .f_law_factors]
mutual
inductive E where
  | pu (p : P)
  | var (i : Nat)
  | mov (i : Nat)
  | frz (e : E)
  | op (o : Prim) (es : List E)
  | bop (isAnd : Bool) (es : List E)
  | ite (c : C) (a b : E)
  | tup (es : List E)
  | list (es : List E)
  | dict (kvs : List (String × E))
  | idict
  | call (f : Fn) (es : List E)
  | callr (f : Fn) (i : Nat) (es : List E)
  | new (c : Cls) (es : List E)
  | cat (a b : E)
  | rep (a n : E)
  | slice (a hi : E)
  | lcopy (it : It)
  | lcopyP (p : P)
  | dcopy (e : E)
  | pop (i : Nat)
  | comp (i : Nat) (it : It) (cond : Option C) (elt : E)
  | fail
inductive C where
  | e (e : E)
  | not (c : C)
  | bop (isAnd : Bool) (cs : List C)
  | cmp (o : Prim) (a b : E)
  | pu (o : Prim) (p q : P)
  | nonempty (i : Nat)
inductive It where
  | ex (e : E)
  | range (es : List E)
end
inductive S where
  | asg (i : Nat) (e : E)
  | set (i : Nat) (path : List St) (last : St) (e : E)
  | setany (i : Nat) (n : String) (e : E)
  | app (i : Nat) (e : E)
  | appA (i : Nat) (n : String) (e : E)
  | ext (i : Nat) (e : E)
  | rev (i : Nat)
  | iff (c : C) (a b : List S)
  | loop (i : Nat) (it : It) (body : List S)
  | ret (e : E)
  | ex (e : E)
  | raise (e : E)
  | euclid (x y : Nat)
  | fail
  | fgt (fg : List Nat) (s : S)
abbrev Cf := Fn → List T → Option (T × Sg)
abbrev Cn := Cls → List T → Option T
noncomputable def allD : List T → Option (List D)
  | [] => some []
  | t :: ts => (asD t).bind fun d => (allD ts).bind fun ds => some (d :: ds)
noncomputable def asList (t : T) : Option (List D) := (asD t).bind D.seq?
noncomputable def asL (t : T) : Option (List D) := (asD t).bind D.list?
noncomputable def asSrc (t : T) : Option (List D) := (asD t).bind D.src?
noncomputable def rangeL (a b : Int) : List D := (List.range (b - a).toNat).map fun (k : Nat) => D.int (a + k)
noncomputable def rangeDown (a b : Int) : List D := (List.range (a - b).toNat).map fun (k : Nat) => D.int (a - k)
noncomputable def rangeItems (ts : List T) : Option (List D) := match ts with
  | [] => none
  | a :: ts => (asInt a).bind fun a => match ts with
    | [] => if small a then some (rangeL 0 a) else none
    | b :: ts => (asInt b).bind fun b => match ts with
      | [] => if small a && small b then some (rangeL a b) else none
      | c :: ts => (asInt c).bind fun c => match ts with
        | [] => if c = -1 && (small a && small b) then some (rangeDown a b) else none
        | _ :: _ => none
noncomputable def truthD (t : T) : Option Bool := (asD t).bind D.bool?
noncomputable def compLoop (step : D → Sg → Option (Option T × Sg)) : List D → Sg → Option (List T × Sg)
  | [], σ => some ([], σ)
  | d :: ds, σ => (step d σ).bind fun r => (compLoop step ds r.2).bind fun q => some (match r.1 with | some t => t :: q.1 | none => q.1, q.2)
noncomputable def repD (l : List D) (n : Nat) : List D := (List.replicate n l).flatten
noncomputable def val (o : Option (T × Sg)) : Option T := o.map Prod.fst
mutual
noncomputable def ev (cf : Cf) (cn : Cn) : E → Sg → Option (T × Sg)
  | .pu p, σ => (pv σ p).bind fun t => (asD t).bind fun d => some (.frz d, σ)
  | .var i, σ => (gv σ i).bind fun t => some (.frz t.freeze, σ.set i (some (.frz t.freeze)))
  | .mov i, σ => (gv σ i).bind fun t => some (t, σ.set i none)
  | .frz e, σ => (ev cf cn e σ).bind fun r => some (.frz r.1.freeze, r.2)
  | .op o es, σ => (evs cf cn es σ).bind fun r => (allD r.1).bind fun ds => (prim o (ds.map .frz)).bind fun t => some (t, r.2)
  | .bop isAnd es, σ => evb cf cn isAnd es σ
  | .ite c a b, σ => (ec cf cn c σ).bind fun r => if r.1 then ev cf cn a r.2 else ev cf cn b r.2
  | .tup es, σ => (evs cf cn es σ).bind fun r => (allD r.1).bind fun ds => some (.frz (.tup ds), r.2)
  | .list es, σ => (evs cf cn es σ).bind fun r => some (.olist r.1, r.2)
  | .dict kvs, σ => (evk cf cn kvs σ).bind fun r => some (.odict r.1, r.2)
  | .idict, σ => some (.oidict [], σ)
  | .call f es, σ => (evs cf cn es σ).bind fun r => (val (cf f r.1)).bind fun t => some (t, r.2)
  | .callr f i es, σ => (gv σ i).bind fun t => (evs cf cn es (σ.set i none)).bind fun r => (cf f (t :: r.1)).bind fun q => (gv q.2 0).bind fun t' => some (q.1, r.2.set i (some t'))
  | .new c es, σ => (evs cf cn es σ).bind fun r => (cn c r.1).bind fun t => some (t, r.2)
  | .cat a b, σ => (ev cf cn a σ).bind fun r => (ev cf cn b r.2).bind fun q => (asL r.1).bind fun x => (asL q.1).bind fun y => if x.length + y.length ≤ 1000 then some (.olist ((x ++ y).map .frz), q.2) else none
  | .rep a n, σ => (ev cf cn a σ).bind fun r => (ev cf cn n r.2).bind fun q => (asL r.1).bind fun x => (asInt q.1).bind fun k => if small k && decide (x.length ≤ 1000) then some (.olist ((repD x k.toNat).map .frz), q.2) else none
  | .slice a hi, σ => (ev cf cn a σ).bind fun r => (ev cf cn hi r.2).bind fun q => (asSrc r.1).bind fun x => (asInt q.1).bind fun k => (idx k).bind fun k => if x.length ≤ 1000 then some (.olist ((x.take k).map .frz), q.2) else none
  | .lcopy it, σ => (evi cf cn it σ).bind fun r => if r.1.length ≤ 1000 then some (.olist (r.1.map .frz), r.2) else none
  | .lcopyP p, σ => (pv σ p).bind fun t => (asOl t).bind fun ts => (allD ts).bind fun ds => if ds.length ≤ 1000 then some (.olist (ds.map .frz), σ) else none
  | .dcopy e, σ => (ev cf cn e σ).bind fun r => (asD r.1).bind fun d => d.dict?.bind fun kvs => if kvs.length ≤ 500 then some (.odict (kvs.map fun kv => (kv.1, .frz kv.2)), r.2) else none
  | .pop i, σ => (gv σ i).bind fun t => (asOl t).bind fun ts => if ts.length ≤ 1000 then (ts.getLast?).bind fun x => some (x, σ.set i (some (.olist ts.dropLast))) else none
  | .comp i it cond elt, σ => (evi cf cn it σ).bind fun r => if 1000 < r.1.length then none else
      (compLoop (fun d σ => match cond with
        | none => (ev cf cn elt (σ.set i (some (.frz d)))).bind fun q => (asD q.1).bind fun x => some (some (.frz x), q.2)
        | some c => (ec cf cn c (σ.set i (some (.frz d)))).bind fun b => if b.1 then (ev cf cn elt b.2).bind fun q => (asD q.1).bind fun x => some (some (.frz x), q.2) else some (none, b.2)) r.1 r.2).bind
        fun q => some (.olist q.1, q.2.set i none)
  | .fail, _ => none
noncomputable def evs (cf : Cf) (cn : Cn) : List E → Sg → Option (List T × Sg)
  | [], σ => some ([], σ)
  | e :: es, σ => (ev cf cn e σ).bind fun r => (evs cf cn es r.2).bind fun q => some (r.1 :: q.1, q.2)
noncomputable def evk (cf : Cf) (cn : Cn) : List (String × E) → Sg → Option (List (String × T) × Sg)
  | [], σ => some ([], σ)
  | (n, e) :: es, σ => (ev cf cn e σ).bind fun r => (evk cf cn es r.2).bind fun q => some ((n, r.1) :: q.1, q.2)
noncomputable def evb (cf : Cf) (cn : Cn) (isAnd : Bool) : List E → Sg → Option (T × Sg)
  | [], _ => none
  | e :: es, σ => (ev cf cn e σ).bind fun r => (truthD r.1).bind fun b => if es.isEmpty then some (.frz (.bool b), r.2) else if b = isAnd then evb cf cn isAnd es r.2 else some (.frz (.bool b), r.2)
noncomputable def ec (cf : Cf) (cn : Cn) : C → Sg → Option (Bool × Sg)
  | .e e, σ => (ev cf cn e σ).bind fun r => (truthD r.1).bind fun b => some (b, r.2)
  | .not c, σ => (ec cf cn c σ).bind fun r => some (!r.1, r.2)
  | .bop isAnd cs, σ => ecb cf cn isAnd cs σ
  | .cmp o a b, σ => (ev cf cn a σ).bind fun r => (ev cf cn b r.2).bind fun q => (prim o [r.1, q.1]).bind fun t => (truthD t).bind fun x => some (x, q.2)
  | .pu o p q, σ => (pv σ p).bind fun t => (pv σ q).bind fun u => (prim o [t, u]).bind fun r => (truthD r).bind fun x => some (x, σ)
  | .nonempty i, σ => (gv σ i).bind fun t => (asOl t).bind fun ts => (allD ts).bind fun ds => (pyEq 4 (.list ds) (.list [])).bind fun r => some (!r, σ)
noncomputable def ecb (cf : Cf) (cn : Cn) (isAnd : Bool) : List C → Sg → Option (Bool × Sg)
  | [], σ => some (isAnd, σ)
  | c :: cs, σ => (ec cf cn c σ).bind fun r => if r.1 = isAnd then ecb cf cn isAnd cs r.2 else some (r.1, r.2)
noncomputable def evi (cf : Cf) (cn : Cn) : It → Sg → Option (List D × Sg)
  | .ex e, σ => (ev cf cn e σ).bind fun r => (asList r.1).bind fun l => some (l, r.2)
  | .range es, σ => (evs cf cn es σ).bind fun r => (rangeItems r.1).bind fun l => some (l, r.2)
end
noncomputable def setL {α : Type} (k : String) (v : α) : List (String × α) → List (String × α)
  | [] => [(k, v)]
  | (x, a) :: r => if x = k then (k, v) :: r else (x, a) :: setL k v r
noncomputable def setI {α : Type} (k : Int) (v : α) : List (Int × α) → List (Int × α)
  | [] => [(k, v)]
  | (x, a) :: r => if x = k then (k, v) :: r else (x, a) :: setI k v r
noncomputable def hasK {α : Type} (k : String) : List (String × α) → Bool
  | [] => false
  | (x, _) :: r => x = k || hasK k r
noncomputable def nodupK {α : Type} : List (String × α) → Bool
  | [] => true
  | (x, _) :: r => !hasK x r && nodupK r
noncomputable def asOi : T → Option (Cls × List (String × T))
  | .oinst c fs => some (c, fs)
  | .frz _ => none
  | .olist _ => none
  | .odict _ => none
  | .oidict _ => none
noncomputable def upd1 (σ : Sg) (st : St) (f : T → Option T) (t : T) : Option T :=
  match st with
  | .attr n => (asOi t).bind fun q => (q.2.lookup n).bind fun x => (f x).bind fun y => some (.oinst q.1 (setL n y q.2))
  | .item p => (asOl t).bind fun ts => (pv σ p).bind fun k => (asInt k).bind fun k => (idx k).bind fun k => (ts[k]?).bind fun x => (f x).bind fun y => some (.olist (ts.set k y))
noncomputable def updP (σ : Sg) : List St → (T → Option T) → T → Option T
  | [], f, t => f t
  | st :: r, f, t => upd1 σ st (updP σ r f) t
noncomputable def storeI (v k : T) : T → Option T
  | .frz _ => none
  | .olist ts => (asInt k).bind fun k => (idx k).bind fun k => if k < ts.length then some (.olist (ts.set k v)) else none
  | .oinst _ _ => none
  | .odict kvs => (asStr k).bind fun k => if kvs.length ≤ 500 && (nodupK kvs && decide (k ≠ "shared")) then some (.odict (setL k v kvs)) else none
  | .oidict kvs => (asInt k).bind fun k => if kvs.length ≤ 500 && (kvs.lookup k).isNone then (asD v).bind fun d => some (.oidict (kvs ++ [(k, d)])) else none
noncomputable def store (σ : Sg) (st : St) (v : T) (t : T) : Option T :=
  match st with
  | .attr n => (asOi t).bind fun q => if q.2.length ≤ 500 && nodupK q.2 then some (.oinst q.1 (setL n v q.2)) else none
  | .item p => (pv σ p).bind fun k => storeI v k t
noncomputable def appendT (v : T) (t : T) : Option T := (asOl t).bind fun ts => if ts.length ≤ 1000 then some (.olist (ts ++ [v])) else none
noncomputable def isOl (t : Option T) : Option Unit := t.bind fun t => (asOl t).bind fun _ => some ()
inductive Fl where
  | next (σ : Sg)
  | ret (t : T) (σ : Sg)
  | exc (m : String)
noncomputable def fgtS (fg : List Nat) (σ : Sg) : Sg := fg.foldl (fun σ i => σ.set i none) σ
noncomputable def fgtF (fg : List Nat) : Fl → Fl
  | .next σ => .next (fgtS fg σ)
  | .ret t σ => .ret t σ
  | .exc m => .exc m
noncomputable def forLoop (step : D → Sg → Option Fl) : List D → Sg → Option Fl
  | [], σ => some (.next σ)
  | d :: ds, σ => (step d σ).bind fun r => match r with
      | .next σ => forLoop step ds σ
      | .ret t σ => some (.ret t σ)
      | .exc m => some (.exc m)
mutual
noncomputable def xs (cf : Cf) (cn : Cn) : S → Sg → Option Fl
  | .asg i e, σ => (ev cf cn e σ).bind fun r => some (.next (r.2.set i (some r.1)))
  | .set i path last e, σ => (ev cf cn e σ).bind fun r => (gv r.2 i).bind fun t => (updP r.2 path (store r.2 last r.1) t).bind fun t' => some (.next (r.2.set i (some t')))
  | .setany i n e, σ => (ev cf cn e σ).bind fun r => (gv r.2 i).bind fun t => (asD t).bind fun d => d.inst?.bind fun q => (q.2.lookup n).bind fun d => d.any?.bind fun _ => some (.next r.2)
  | .app i e, σ => (isOl (gv σ i)).bind fun _ => (ev cf cn e σ).bind fun r => (gv r.2 i).bind fun t => (appendT r.1 t).bind fun t' => some (.next (r.2.set i (some t')))
  | .appA i n e, σ => (gv σ i).bind fun t => (ev cf cn e (σ.set i none)).bind fun r => (upd1 r.2 (.attr n) (appendT r.1) t).bind fun t' => some (.next (r.2.set i (some t')))
  | .ext i e, σ => (isOl (gv σ i)).bind fun _ => (ev cf cn e σ).bind fun r => (asL r.1).bind fun l => (gv r.2 i).bind fun t => (asOl t).bind fun ts => if ts.length + l.length ≤ 1000 then some (.next (r.2.set i (some (.olist (ts ++ l.map .frz))))) else none
  | .rev i, σ => (gv σ i).bind fun t => (asOl t).bind fun ts => if ts.length ≤ 1000 then (allD ts).bind fun ds => some (.next (σ.set i (some (.olist (ds.reverse.map .frz))))) else none
  | .iff c a b, σ => (ec cf cn c σ).bind fun r => if r.1 then xss cf cn a r.2 else xss cf cn b r.2
  | .loop i it body, σ => (evi cf cn it σ).bind fun r => forLoop (fun d σ => xss cf cn body (σ.set i (some (.frz d)))) r.1 r.2
  | .ret e, σ => (ev cf cn e σ).bind fun r => some (.ret r.1 r.2)
  | .ex e, σ => (ev cf cn e σ).bind fun r => (asD r.1).bind fun d => d.none?.bind fun _ => some (.next r.2)
  | .raise e, σ => (ev cf cn e σ).bind fun r => (asStr r.1).bind fun m => some (.exc m)
  | .euclid x y, σ => (gv σ x).bind fun a => (gv σ y).bind fun b => (asInt a).bind fun a => (asInt b).bind fun b => if 0 ≤ a ∧ 0 ≤ b then some (.next ((σ.set x (some (.frz (.int (Int.gcd a b))))).set y (some (.frz (.int 0))))) else none
  | .fail, _ => none
  | .fgt fg s, σ => (xs cf cn s σ).bind fun r => some (fgtF fg r)
noncomputable def xss (cf : Cf) (cn : Cn) : List S → Sg → Option Fl
  | [], σ => some (.next σ)
  | s :: r, σ => (xs cf cn s σ).bind fun q => match q with
      | .next σ => xss cf cn r σ
      | .ret t σ => some (.ret t σ)
      | .exc m => some (.exc m)
end
structure Info where
  nargs : Nat
  dflt : List D
  names : List String
  body : List S
noncomputable def frame (I : Info) (args : List T) : Option Sg :=
  if args.length ≤ I.nargs ∧ I.nargs ≤ args.length + I.dflt.length then
    let all := args.map some ++ (I.dflt.drop (args.length + I.dflt.length - I.nargs)).map fun d => some (.frz d)
    some (all ++ List.replicate (I.names.length - I.nargs) none)
  else none
noncomputable def runF (I : Info) (cf : Cf) (cn : Cn) (args : List T) : Option (T × Sg) :=
  (frame I args).bind fun σ => (xss cf cn I.body σ).bind fun r => match r with
    | .next σ => some (.frz .none, σ)
    | .ret t σ => some (t, σ)
    | .exc _ => none
noncomputable def initN (o : Option (T × Sg)) : Option T := o.bind fun q => (asD q.1).bind fun d => d.none?.bind fun _ => gv q.2 0
end Mine.Internal
end
section
open PySem PySem.W
set_option maxRecDepth 10000
namespace Mine.Internal
theorem binv {α β : Type} {o : Option α} {f : α → Option β} {b : β} {G : Prop} (e : o.bind f = some b) (k : ∀ a, o = some a → f a = some b → G) : G := by
  cases o with
  | none => cases e
  | some a => exact k a rfl e
theorem ifv {α : Type} {c : Prop} [d : Decidable c] {x : Option α} {b : α} {G : Prop} (e : (if c then x else none) = some b) (k : c → x = some b → G) : G := by
  cases d with
  | isTrue h => exact k h e
  | isFalse h => cases e
theorem mapv {α β : Type} {o : Option α} {f : α → β} {b : β} {G : Prop} (e : o.map f = some b) (k : ∀ a, o = some a → f a = b → G) : G := by
  cases o with
  | none => cases e
  | some a => exact k a rfl (Option.some.inj e)
theorem anyv {α : Type} {o : Option α} {f : α → Bool} {G : Prop} (e : o.any f = true) (k : ∀ a, o = some a → f a = true → G) : G := by
  cases o with
  | none => cases e
  | some a => exact k a rfl e
theorem and1 {a b : Bool} (h : (a && b) = true) : a = true := by cases a; cases h; rfl
theorem and2 {a b : Bool} (h : (a && b) = true) : b = true := by cases a; cases h; exact h
theorem dec1 {p : Prop} [Decidable p] (h : decide p = true) : p := of_decide_eq_true h
theorem nos {α : Type} {a : α} {G : Prop} (e : none = some a) : G := by cases e
theorem fot {G : Prop} (e : false = true) : G := by cases e
theorem asD_inv {t : T} {d : D} (e : asD t = some d) : t = .frz d := by cases t <;> first | exact nos e | (cases e; rfl)
theorem asOl_inv {t : T} {d : List T} (e : asOl t = some d) : t = .olist d := by cases t <;> first | exact nos e | (cases e; rfl)
theorem asOi_inv {t : T} {d : Cls × List (String × T)} (e : asOi t = some d) : t = .oinst d.1 d.2 := by cases t <;> first | exact nos e | (cases e; rfl)
theorem D.int_inv {d : D} {i : Int} (e : d.int? = some i) : d = .int i := by cases d <;> first | exact nos e | (cases e; rfl)
theorem D.str_inv {d : D} {i : String} (e : d.str? = some i) : d = .str i := by cases d <;> first | exact nos e | (cases e; rfl)
theorem D.bool_inv {d : D} {i : Bool} (e : d.bool? = some i) : d = .bool i := by cases d <;> first | exact nos e | (cases e; rfl)
theorem D.list_inv {d : D} {i : List D} (e : d.list? = some i) : d = .list i := by cases d <;> first | exact nos e | (cases e; rfl)
theorem D.seq_inv {d : D} {i : List D} (e : d.seq? = some i) : d = .list i ∨ d = .tup i := by cases d <;> first | exact nos e | (cases e; exact .inl rfl) | (cases e; exact .inr rfl)
theorem D.src_inv {d : D} {i : List D} (e : d.src? = some i) : d = .list i ∨ d = .src i := by cases d <;> first | exact nos e | (cases e; exact .inl rfl) | (cases e; exact .inr rfl)
theorem D.inst_inv {d : D} {i : Cls × List (String × D)} (e : d.inst? = some i) : d = .inst i.1 i.2 := by cases d <;> first | exact nos e | (cases e; rfl)
theorem D.dict_inv {d : D} {i : List (String × D)} (e : d.dict? = some i) : d = .dict i := by cases d <;> first | exact nos e | (cases e; rfl)
theorem D.none_inv {d : D} {i : Unit} (e : d.none? = some i) : d = .none := by cases d <;> first | exact nos e | (cases e; rfl)
theorem D.any_inv {d : D} {i : Unit} (e : d.any? = some i) : d = .any := by cases d <;> first | exact nos e | (cases e; rfl)
theorem asInt_inv {t : T} {i : Int} (e : asInt t = some i) : t = .frz (.int i) := binv e fun d e1 e2 => by rw [asD_inv e1, D.int_inv e2]
theorem asStr_inv {t : T} {i : String} (e : asStr t = some i) : t = .frz (.str i) := binv e fun d e1 e2 => by rw [asD_inv e1, D.str_inv e2]
theorem truthD_inv {t : T} {i : Bool} (e : truthD t = some i) : t = .frz (.bool i) := binv e fun d e1 e2 => by rw [asD_inv e1, D.bool_inv e2]
theorem asL_inv {t : T} {i : List D} (e : asL t = some i) : t = .frz (.list i) := binv e fun d e1 e2 => by rw [asD_inv e1, D.list_inv e2]
theorem asList_inv {t : T} {i : List D} (e : asList t = some i) : t = .frz (.list i) ∨ t = .frz (.tup i) := binv e fun d e1 e2 => by
  rw [asD_inv e1]; exact (D.seq_inv e2).imp (congrArg _) (congrArg _)
theorem asSrc_inv {t : T} {i : List D} (e : asSrc t = some i) : t = .frz (.list i) ∨ t = .frz (.src i) := binv e fun d e1 e2 => by
  rw [asD_inv e1]; exact (D.src_inv e2).imp (congrArg _) (congrArg _)
theorem val_inv {o : Option (T × Sg)} {t : T} (e : val o = some t) : ∃ σ, o = some (t, σ) := by
  cases o with
  | none => cases e
  | some q => cases e; exact ⟨_, rfl⟩
abbrev KP := Addr → Option Obj
abbrev Lg := List (Addr × Obj)
structure Cx where
  prog : Program
  w : World
  K : Frag
  base : Heap
  mg : Str → Option Value
  mb : Str → Option Value
  p : Program
  loose : List Str
  cA : Cls → Addr
  fA : Fn → Addr
  eA : Addr
noncomputable def NsObj (o : Obj) (m : Str → Option Value) (k : Nat) : Prop := ∃ es ep, o.data = .dict es ep ∧ StrKeys es ∧ es.size ≤ k ∧ ∀ name, nsFind es name = m name
noncomputable def DictObj (cx : Cx) (a : Addr) (o : Obj) (kv : List (Str × Value)) : Prop :=
  (a == sysModules) = false ∧ (∀ p ∈ kv, p.1 ≠ ("shared" : Str)) ∧ ∃ es ep, o.ExactDict ∧ o.data = .dict es ep ∧ KeysOf (strKind cx.prog cx.w) es ∧ Pairs (strKind cx.prog cx.w) es.toList kv ∧ (kv.map (·.1)).Nodup
noncomputable def IntObj (o : Obj) (f : Int → Option Value) (k : Nat) : Prop :=
  ∃ es ep, o.cls = .type "dict" ∧ o.data = .dict es ep ∧ IntKeys es ∧ es.size ≤ k ∧ ∀ x, findBy Value.isInt es x = f x
abbrev lobj (vs : List Value) (n : Nat) : Obj := { cls := .type "list", data := .seq vs.toArray n }
mutual
noncomputable def Rep (cx : Cx) (kp : KP) (v : Value) : D → Prop
  | .any => True
  | .none => v = .none
  | .bool b => v = .bool b
  | .int i => ∃ t, v = .int i t
  | .str s => ∃ t, v = .str (Str.ofString s) t
  | .tup ds => ∃ a o vs n, v = .ref a ∧ kp a = some o ∧ o.cls = .type "tuple" ∧ o.data = .seq vs n ∧ RepL cx kp vs.toList ds
  | .list ds => ∃ a vs n, v = .ref a ∧ kp a = some (lobj vs n) ∧ RepL cx kp vs ds
  | .src ds => ∃ a o vs n, v = .ref a ∧ kp a = some o ∧ o.cls = .type "list" ∧ o.data = .seq vs n ∧ RepL cx kp vs.toList ds
  | .inst c fs => ∃ a d od m k, v = .ref a ∧ kp a = some (instObj (cx.cA c) d) ∧ kp d = some od ∧ (cx.base.get? d = none ∧ k ≤ 600) ∧ NsObj od m k ∧ RepF cx kp m fs
  | .dict kvs => ∃ a o kv, v = .ref a ∧ kp a = some o ∧ DictObj cx a o kv ∧ RepK cx kp kv kvs
noncomputable def RepL (cx : Cx) (kp : KP) (vs : List Value) : List D → Prop
  | [] => vs = []
  | d :: ds => ∃ v r, vs = v :: r ∧ Rep cx kp v d ∧ RepL cx kp r ds
noncomputable def RepF (cx : Cx) (kp : KP) (m : Str → Option Value) : List (String × D) → Prop
  | [] => True
  | (n, d) :: r => (∃ v, m (Str.ofString n) = some v ∧ (n ≠ "shared" → Rep cx kp v d)) ∧ RepF cx kp m r
noncomputable def RepK (cx : Cx) (kp : KP) (kv : List (Str × Value)) : List (String × D) → Prop
  | [] => kv = []
  | (n, d) :: r => ∃ v q, kv = (Str.ofString n, v) :: q ∧ Rep cx kp v d ∧ RepK cx kp q r
end
noncomputable def OwnI (cx : Cx) (kp : KP) (f : Int → Option Value) (kvs : List (Int × D)) : Prop :=
  (∀ k, kvs.lookup k = none → f k = none) ∧ ∀ k d, kvs.lookup k = some d → ∃ v, f k = some v ∧ Rep cx kp v d
mutual
noncomputable def Own (cx : Cx) (kp : KP) (v : Value) : T → Lg → Prop
  | .frz d, o => o = [] ∧ Rep cx kp v d
  | .olist ts, o => ∃ a vs n r, v = .ref a ∧ o = (a, lobj vs n) :: r ∧ OwnL cx kp vs ts r
  | .oinst c fs, o => ∃ a d od m r, v = .ref a ∧ o = (a, instObj (cx.cA c) d) :: (d, od) :: r ∧ (cx.base.get? d = none ∧ fs.length ≤ 600) ∧ od.cls = .type "dict" ∧ NsObj od m fs.length ∧ OwnF cx kp m fs r
  | .odict kvs, o => ∃ a od kv r, v = .ref a ∧ o = (a, od) :: r ∧ DictObj cx a od kv ∧ OwnK cx kp kv kvs r
  | .oidict kvs, o => ∃ a od f, v = .ref a ∧ o = [(a, od)] ∧ IntObj od f kvs.length ∧ OwnI cx kp f kvs
noncomputable def OwnL (cx : Cx) (kp : KP) (vs : List Value) : List T → Lg → Prop
  | [], o => vs = [] ∧ o = []
  | t :: ts, o => ∃ v r o1 o2, vs = v :: r ∧ o = o1 ++ o2 ∧ Own cx kp v t o1 ∧ OwnL cx kp r ts o2
noncomputable def OwnF (cx : Cx) (kp : KP) (m : Str → Option Value) : List (String × T) → Lg → Prop
  | [], o => o = []
  | (n, t) :: r, o => ∃ v o1 o2, m (Str.ofString n) = some v ∧ o = o1 ++ o2 ∧ Own cx kp v t o1 ∧ OwnF cx kp m r o2
noncomputable def OwnK (cx : Cx) (kp : KP) (kv : List (Str × Value)) : List (String × T) → Lg → Prop
  | [], o => kv = [] ∧ o = []
  | (n, t) :: r, o => ∃ v q o1 o2, kv = (Str.ofString n, v) :: q ∧ o = o1 ++ o2 ∧ Own cx kp v t o1 ∧ OwnK cx kp q r o2
end
noncomputable def RepLe (cx : Cx) (kp kp' : KP) : Prop := ∀ v d, Rep cx kp v d → Rep cx kp' v d
theorem RepLe.refl {cx : Cx} {kp : KP} : RepLe cx kp kp := fun _ _ h => h
theorem RepLe.trans {cx : Cx} {a b c : KP} (x : RepLe cx a b) (y : RepLe cx b c) : RepLe cx a c := fun v d h => y v d (x v d h)
section
variable {cx : Cx} {kp kp' : KP}
mutual
theorem Rep.sub (h : ∀ a o, kp a = some o → kp' a = some o) : ∀ (d : D) (v : Value), Rep cx kp v d → Rep cx kp' v d
  | .any, _, _ => trivial
  | .none, _, r => r
  | .bool _, _, r => r
  | .int _, _, r => r
  | .str _, _, r => r
  | .tup ds, v, r => by
    obtain ⟨a, o, vs, n, e, k, c, dt, l⟩ := r
    exact ⟨a, o, vs, n, e, h _ _ k, c, dt, RepL.sub h ds _ l⟩
  | .list ds, v, r => by
    obtain ⟨a, vs, n, e, k, l⟩ := r
    exact ⟨a, vs, n, e, h _ _ k, RepL.sub h ds _ l⟩
  | .src ds, v, r => by
    obtain ⟨a, o, vs, n, e, k, c, dt, l⟩ := r
    exact ⟨a, o, vs, n, e, h _ _ k, c, dt, RepL.sub h ds _ l⟩
  | .inst c fs, v, r => by
    obtain ⟨a, d, od, m, k, e, k1, k2, b, ns, l⟩ := r
    exact ⟨a, d, od, m, k, e, h _ _ k1, h _ _ k2, b, ns, RepF.sub h fs _ l⟩
  | .dict kvs, v, r => by
    obtain ⟨a, o, kv, e, k, dd, l⟩ := r
    exact ⟨a, o, kv, e, h _ _ k, dd, RepK.sub h kvs _ l⟩
theorem RepL.sub (h : ∀ a o, kp a = some o → kp' a = some o) : ∀ (ds : List D) (vs : List Value), RepL cx kp vs ds → RepL cx kp' vs ds
  | [], _, r => r
  | d :: ds, vs, r => by
    obtain ⟨v, q, e, x, y⟩ := r
    exact ⟨v, q, e, Rep.sub h d v x, RepL.sub h ds q y⟩
theorem RepF.sub (h : ∀ a o, kp a = some o → kp' a = some o) : ∀ (ds : List (String × D)) (m : Str → Option Value), RepF cx kp m ds → RepF cx kp' m ds
  | [], _, r => trivial
  | (n, d) :: ds, m, r => by
    exact ⟨let ⟨v, e, x⟩ := r.1; ⟨v, e, fun z => Rep.sub h d v (x z)⟩, RepF.sub h ds m r.2⟩
theorem RepK.sub (h : ∀ a o, kp a = some o → kp' a = some o) : ∀ (ds : List (String × D)) (kv : List (Str × Value)), RepK cx kp kv ds → RepK cx kp' kv ds
  | [], _, r => r
  | (n, d) :: ds, kv, r => by
    obtain ⟨v, q, e, x, y⟩ := r
    exact ⟨v, q, e, Rep.sub h d v x, RepK.sub h ds q y⟩
end
theorem RepLe.of_sub (h : ∀ a o, kp a = some o → kp' a = some o) : RepLe cx kp kp' := fun v d r => Rep.sub h d v r
theorem RepL.le (h : RepLe cx kp kp') : ∀ {ds : List D} {vs : List Value}, RepL cx kp vs ds → RepL cx kp' vs ds
  | [], _, r => r
  | d :: ds, vs, r => by
    obtain ⟨v, q, e, x, y⟩ := r
    exact ⟨v, q, e, h v d x, RepL.le h y⟩
mutual
theorem Own.le (h : RepLe cx kp kp') : ∀ {t : T} {v : Value} {o : Lg}, Own cx kp v t o → Own cx kp' v t o
  | .frz d, v, o, r => by
    exact ⟨r.1, h _ _ r.2⟩
  | .olist ts, v, o, r => by
    obtain ⟨a, vs, n, q, e1, e2, l⟩ := r
    exact ⟨a, vs, n, q, e1, e2, OwnL.le h l⟩
  | .oinst c fs, v, o, r => by
    obtain ⟨a, d, od, m, q, e1, e2, eb, ec, ns, l⟩ := r
    exact ⟨a, d, od, m, q, e1, e2, eb, ec, ns, OwnF.le h l⟩
  | .odict kvs, v, o, r => by
    obtain ⟨a, od, kv, q, e1, e2, dd, l⟩ := r
    exact ⟨a, od, kv, q, e1, e2, dd, OwnK.le h l⟩
  | .oidict kvs, v, o, r => by
    obtain ⟨a, od, f, e1, e2, dd, l⟩ := r
    refine ⟨a, od, f, e1, e2, dd, ?_⟩
    exact ⟨l.1, fun k d e => let ⟨v, a, b⟩ := l.2 k d e; ⟨v, a, h _ _ b⟩⟩
theorem OwnL.le (h : RepLe cx kp kp') : ∀ {ts : List T} {vs : List Value} {o : Lg}, OwnL cx kp vs ts o → OwnL cx kp' vs ts o
  | [], _, _, r => r
  | t :: ts, vs, o, r => by
    obtain ⟨v, q, o1, o2, e1, e2, x, y⟩ := r
    exact ⟨v, q, o1, o2, e1, e2, Own.le h x, OwnL.le h y⟩
theorem OwnF.le (h : RepLe cx kp kp') : ∀ {ts : List (String × T)} {m : Str → Option Value} {o : Lg}, OwnF cx kp m ts o → OwnF cx kp' m ts o
  | [], _, _, r => r
  | (n, t) :: ts, m, o, r => by
    obtain ⟨v, o1, o2, e1, e2, x, y⟩ := r
    exact ⟨v, o1, o2, e1, e2, Own.le h x, OwnF.le h y⟩
theorem OwnK.le (h : RepLe cx kp kp') : ∀ {ts : List (String × T)} {kv : List (Str × Value)} {o : Lg}, OwnK cx kp kv ts o → OwnK cx kp' kv ts o
  | [], _, _, r => r
  | (n, t) :: ts, kv, o, r => by
    obtain ⟨v, q, o1, o2, e1, e2, x, y⟩ := r
    exact ⟨v, q, o1, o2, e1, e2, Own.le h x, OwnK.le h y⟩
end
mutual
theorem Own.freeze (h : RepLe cx kp kp') : ∀ {t : T} {v : Value} {o : Lg}, Own cx kp v t o → (∀ p ∈ o, kp' p.1 = some p.2) → Rep cx kp' v t.freeze
  | .frz d, v, o, r, _ => by
    exact h _ _ r.2
  | .olist ts, v, o, r, k => by
    obtain ⟨a, vs, n, q, e1, e2, l⟩ := r
    subst e2
    exact ⟨a, vs, n, e1, k _ (.head _), OwnL.freeze h l (fun p hp => k p (.tail _ hp))⟩
  | .oinst c fs, v, o, r, k => by
    obtain ⟨a, d, od, m, q, e1, e2, eb, ec, ns, l⟩ := r
    subst e2
    exact ⟨a, d, od, m, _, e1, k _ (.head _), k _ (.tail _ (.head _)), eb, ns, OwnF.freeze h l (fun p hp => k p (.tail _ (.tail _ hp)))⟩
  | .odict kvs, v, o, r, k => by
    obtain ⟨a, od, kv, q, e1, e2, dd, l⟩ := r
    subst e2
    exact ⟨a, _, kv, e1, k _ (.head _), dd, OwnK.freeze h l (fun p hp => k p (.tail _ hp))⟩
  | .oidict kvs, v, o, r, k => trivial
theorem OwnL.freeze (h : RepLe cx kp kp') : ∀ {ts : List T} {vs : List Value} {o : Lg}, OwnL cx kp vs ts o → (∀ p ∈ o, kp' p.1 = some p.2) → RepL cx kp' vs (freezeL ts)
  | [], _, _, r, _ => r.1
  | t :: ts, vs, o, r, k => by
    obtain ⟨v, q, o1, o2, e1, e2, x, y⟩ := r
    subst e2
    exact ⟨v, q, e1, Own.freeze h x (fun p hp => k p (List.mem_append_left _ hp)), OwnL.freeze h y (fun p hp => k p (List.mem_append_right _ hp))⟩
theorem OwnF.freeze (h : RepLe cx kp kp') : ∀ {ts : List (String × T)} {m : Str → Option Value} {o : Lg}, OwnF cx kp m ts o → (∀ p ∈ o, kp' p.1 = some p.2) → RepF cx kp' m (freezeF ts)
  | [], _, _, r, _ => trivial
  | (n, t) :: ts, m, o, r, k => by
    obtain ⟨v, o1, o2, e1, e2, x, y⟩ := r
    subst e2
    refine ⟨⟨v, e1, fun hs => ?_⟩, OwnF.freeze h y (fun p hp => k p (List.mem_append_right _ hp))⟩
    rw [if_neg hs]
    exact Own.freeze h x (fun p hp => k p (List.mem_append_left _ hp))
theorem OwnK.freeze (h : RepLe cx kp kp') : ∀ {ts : List (String × T)} {kv : List (Str × Value)} {o : Lg}, OwnK cx kp kv ts o → (∀ p ∈ o, kp' p.1 = some p.2) → RepK cx kp' kv (freezeF ts)
  | [], _, _, r, _ => r.1
  | (n, t) :: ts, kv, o, r, k => by
    obtain ⟨v, q, o1, o2, e1, e2, x, y⟩ := r
    subst e2
    refine ⟨v, q, e1, ?_, OwnK.freeze h y (fun p hp => k p (List.mem_append_right _ hp))⟩
    by_cases hs : n = "shared"
    · rw [if_pos hs]; trivial
    · rw [if_neg hs]
      exact Own.freeze h x (fun p hp => k p (List.mem_append_left _ hp))
end
theorem lst_nf : Value.type "list" ≠ .type "frame" := by simp
theorem dct_nf : Value.type "dict" ≠ .type "frame" := by simp
abbrev NF (o : Lg) : Prop := ∀ p ∈ o, p.2.cls ≠ .type "frame"
theorem NF.nil {o : Lg} (e : o = []) : NF o := fun p hp => by rw [e] at hp; cases hp
theorem NF.cons {o q : Lg} {p : Addr × Obj} (e : o = p :: q) (h : p.2.cls ≠ .type "frame") (k : NF q) : NF o := fun r hr => by
  rw [e] at hr
  cases hr with
  | head => exact h
  | tail _ hr => exact k r hr
theorem NF.app {o a b : Lg} (e : o = a ++ b) (h : NF a) (k : NF b) : NF o := fun r hr => by
  rw [e] at hr
  exact (List.mem_append.mp hr).elim (h r) (k r)
mutual
theorem Own.noFrame : ∀ {t : T} {v : Value} {o : Lg}, Own cx kp v t o → NF o
  | .frz d, v, o, r => .nil r.1
  | .olist ts, v, o, r => by
    obtain ⟨a, vs, n, q, e1, e2, l⟩ := r
    exact .cons e2 lst_nf (OwnL.noFrame l)
  | .oinst c fs, v, o, r => by
    obtain ⟨a, d, od, m, q, e1, e2, eb, ec, ns, l⟩ := r
    exact .cons e2 nofun (.cons rfl (ec ▸ dct_nf) (OwnF.noFrame l))
  | .odict kvs, v, o, r => by
    obtain ⟨a, od, kv, q, e1, e2, ⟨_, _, es, ep, x, _⟩, l⟩ := r
    exact .cons e2 (x.1 ▸ dct_nf) (OwnK.noFrame l)
  | .oidict kvs, v, o, r => by
    obtain ⟨a, od, f, e1, e2, ⟨es, ep, x, _⟩, l⟩ := r
    exact .cons e2 (x ▸ dct_nf) (.nil rfl)
theorem OwnL.noFrame : ∀ {ts : List T} {vs : List Value} {o : Lg}, OwnL cx kp vs ts o → NF o
  | [], _, _, r => .nil r.2
  | t :: ts, vs, o, r => by
    obtain ⟨v, q, o1, o2, e1, e2, x, y⟩ := r
    exact .app e2 (Own.noFrame x) (OwnL.noFrame y)
theorem OwnF.noFrame : ∀ {ts : List (String × T)} {m : Str → Option Value} {o : Lg}, OwnF cx kp m ts o → NF o
  | [], _, _, r => .nil r
  | (n, t) :: ts, m, o, r => by
    obtain ⟨v, o1, o2, e1, e2, x, y⟩ := r
    exact .app e2 (Own.noFrame x) (OwnF.noFrame y)
theorem OwnK.noFrame : ∀ {ts : List (String × T)} {kv : List (Str × Value)} {o : Lg}, OwnK cx kp kv ts o → NF o
  | [], _, _, r => .nil r.2
  | (n, t) :: ts, kv, o, r => by
    obtain ⟨v, q, o1, o2, e1, e2, x, y⟩ := r
    exact .app e2 (Own.noFrame x) (OwnK.noFrame y)
end
end
noncomputable def EqS (o o' : Obj) : Prop := o' = o ∨ (o.cls = .type "frame" ∧ o'.cls = o.cls ∧ o'.data = o.data ∧ o'.dict = o.dict)
noncomputable def HasObj (h : Heap) (p : Addr × Obj) : Prop := ∃ o', h.get? p.1 = some o' ∧ EqS p.2 o'
noncomputable def EqK (o o' : Obj) : Prop := o' = o ∨ ∃ m m' k, NsObj o m k ∧ (∀ k, NsObj o m k → NsObj o' m' k) ∧ (m "shared").isSome = true ∧ (m' "shared").isSome = true ∧ ∀ n : Str, n ≠ "shared" → m' n = m n
theorem EqK.refl {o : Obj} : EqK o o := .inl rfl
theorem EqK.seq {o o' : Obj} {vs : Array Value} {n : Nat} (h : EqK o o') (hd : o.data = .seq vs n) : o' = o := by
  rcases h with h | ⟨m, m', k, ⟨es, ep, e, _⟩, _⟩
  · exact h
  · rw [hd] at e; cases e
theorem EqK.plain {o o' : Obj} (h : EqK o o') (hd : o.data = .plain) : o' = o := by
  rcases h with h | ⟨m, m', k, ⟨es, ep, e, _⟩, _⟩
  · exact h
  · rw [hd] at e; cases e
structure Led (cx : Cx) (kp : KP) (l : Lg) (h : Heap) : Prop where
  kept : ∀ a o, kp a = some o → ∃ o', h.get? a = some o' ∧ EqK o o'
  objs : ∀ p ∈ l, HasObj h p
  nodup : (l.map (·.1)).Nodup
  apart : ∀ p ∈ l, kp p.1 = none
  base : ∀ a o, cx.base.get? a = some o → kp a = some o
  sub : ∀ a o, cx.base.get? a = some o → h.get? a = some o
section
variable {cx : Cx} {kp : KP} {l r : Lg} {h h' : Heap}
theorem Led.keptSeq (x : Led cx kp l h) {a : Addr} {o : Obj} {vs : Array Value} {n : Nat} (e : kp a = some o) (hd : o.data = .seq vs n) : h.get? a = some o := by
  obtain ⟨o', e1, e2⟩ := x.kept a o e
  rw [e1, e2.seq hd]
theorem Led.keptInst (x : Led cx kp l h) {a C d : Addr} (e : kp a = some (instObj C d)) : h.get? a = some (instObj C d) := by
  obtain ⟨o', e1, e2⟩ := x.kept a _ e
  rw [e1, e2.plain rfl]
theorem Led.keptNs (x : Led cx kp l h) {a : Addr} {o : Obj} {m : Str → Option Value} {k : Nat} (e : kp a = some o) (hn : NsObj o m k) : ∃ o' m', h.get? a = some o' ∧ NsObj o' m' k ∧ ∀ n : Str, n ≠ "shared" → m' n = m n := by
  obtain ⟨o', e1, e2⟩ := x.kept a o e
  rcases e2 with rfl | ⟨m1, m1', k1, n1, n1', _, _, h1⟩
  · exact ⟨_, m, e1, hn, fun _ _ => rfl⟩
  · obtain ⟨es, ep, a1, a2, a3, a4⟩ := hn
    obtain ⟨es', ep', b1, b2, b3, b4⟩ := n1
    have b1' := b1
    rw [a1] at b1; cases b1
    have q : m = m1 := funext fun n => (a4 n).symm.trans (b4 n)
    subst q
    exact ⟨_, m1', e1, n1' k ⟨_, _, a1, a2, a3, a4⟩, h1⟩
theorem nsFind_pairs {es : Array DictEntry} {kv : List (Str × Value)} {cx : Cx} (h : Pairs (strKind cx.prog cx.w) es.toList kv) (x : Str) : nsFind es x = valueAt kv x := by
  have := h.find x
  unfold nsFind findBy
  rw [← Array.find?_toList]
  rw [← this]
  congr 2
  funext e
  show e.key.isStr x = Value.isStrOf x e.key
  exact (isStr_of x e.key)
theorem Led.keptDict (x : Led cx kp l h) {a : Addr} {o : Obj} {kv : List (Str × Value)} (e : kp a = some o) (dd : DictObj cx a o kv) : h.get? a = some o := by
  obtain ⟨o', e1, e2⟩ := x.kept a o e
  rcases e2 with rfl | ⟨m1, m1', k1, ⟨es', ep', b1, b2, b3, b4⟩, n1', h1, _, _⟩
  · exact e1
  · obtain ⟨_, ns, es, ep, _, d1, _, d2, _⟩ := dd
    rw [d1] at b1; cases b1
    have := b4 "shared"
    rw [nsFind_pairs d2] at this
    rw [← this] at h1
    obtain ⟨v, hv⟩ := Option.isSome_iff_exists.mp h1
    unfold valueAt at hv
    obtain ⟨p, hp, rfl⟩ := Option.map_eq_some_iff.mp hv
    have hm := List.mem_of_find?_eq_some hp
    have hq := List.find?_some hp
    exact absurd (of_decide_eq_true hq) (ns p hm)
theorem Led.perm (x : Led cx kp l h) (p : l.Perm r) : Led cx kp r h :=
  ⟨x.kept, fun q hq => x.objs q (p.mem_iff.mpr hq), ((p.map (·.1)).nodup_iff).mp x.nodup, fun q hq => x.apart q (p.mem_iff.mpr hq), x.base, x.sub⟩
theorem Led.dropR (x : Led cx kp (l ++ r) h) : Led cx kp l h :=
  ⟨x.kept, fun q hq => x.objs q (List.mem_append_left _ hq), by have := x.nodup; rw [List.map_append] at this; exact (List.nodup_append.mp this).1, fun q hq => x.apart q (List.mem_append_left _ hq), x.base, x.sub⟩
theorem Led.dropL (x : Led cx kp (l ++ r) h) : Led cx kp r h := (x.perm List.perm_append_comm).dropR
theorem Led.get (x : Led cx kp l h) {a : Addr} {o : Obj} (m : (a, o) ∈ l) (hf : o.cls ≠ .type "frame") : h.get? a = some o := by
  obtain ⟨o', e, s⟩ := x.objs _ m
  rcases s with rfl | ⟨c, _⟩
  · exact e
  · exact absurd c hf
theorem Led.data (x : Led cx kp l h) {a : Addr} {o : Obj} (m : (a, o) ∈ l) : ∃ o', h.get? a = some o' ∧ o'.cls = o.cls ∧ o'.data = o.data ∧ o'.dict = o.dict := by
  obtain ⟨o', e, s⟩ := x.objs _ m
  rcases s with rfl | ⟨_, c⟩
  · exact ⟨_, e, rfl, rfl, rfl⟩
  · exact ⟨_, e, c⟩
theorem Led.lt (x : Led cx kp l h) {p : Addr × Obj} (m : p ∈ l) : p.1 < h.objs.size := let ⟨_, e, _⟩ := x.objs _ m; Heap.lt_size e
theorem Led.grow (x : Led cx kp l h) (k : ∀ b o, h.get? b = some o → h'.get? b = some o) : Led cx kp l h' :=
  ⟨fun a o e => let ⟨o', e1, e2⟩ := x.kept a o e; ⟨o', k _ _ e1, e2⟩, fun p hp => let ⟨o', e, s⟩ := x.objs p hp; ⟨o', k _ _ e, s⟩, x.nodup, x.apart, x.base, fun a o e => k _ _ (x.sub a o e)⟩
theorem Led.none_of_ge (x : Led cx kp l h) {a : Addr} (ha : h.objs.size ≤ a) : kp a = none := by
  cases q : kp a with
  | none => rfl
  | some o => obtain ⟨o', e, _⟩ := x.kept a o q; exact absurd (Heap.lt_size e) (Nat.not_lt.mpr ha)
theorem Led.new {a : Addr} {o : Obj} (x : Led cx kp l h) (k : ∀ b o, h.get? b = some o → h'.get? b = some o) (hn : h.get? a = none) (ha : h'.get? a = some o) : Led cx kp ((a, o) :: l) h' := by
  refine ⟨(x.grow k).kept, fun p hp => ?_, ?_, fun p hp => ?_, x.base, (x.grow k).sub⟩
  · cases hp with
    | head => exact ⟨o, ha, .inl rfl⟩
    | tail _ hp => exact (x.grow k).objs p hp
  · rw [List.map_cons, List.nodup_cons]
    refine ⟨fun m => ?_, x.nodup⟩
    obtain ⟨p, hp, e⟩ := List.mem_map.mp m
    obtain ⟨o', e', _⟩ := x.objs p hp
    rw [e, hn] at e'; cases e'
  · cases hp with
    | head =>
      cases q : kp a with
      | none => rfl
      | some o => obtain ⟨o', e', _⟩ := x.kept a o q; rw [hn] at e'; cases e'
    | tail _ hp => exact x.apart p hp
theorem get?_size (h : Heap) : h.get? h.objs.size = none := by
  cases q : h.get? h.objs.size with
  | none => rfl
  | some o => exact absurd (Heap.lt_size q) (Nat.lt_irrefl _)
theorem Led.push {o : Obj} (x : Led cx kp l h) (hf : o.isFreed = false) : Led cx kp ((h.objs.size, o) :: l) (h.push o) :=
  x.new (fun _ _ e => Heap.get?_push_of_some o e) (get?_size h) (Heap.get?_push_size _ hf)
theorem Led.set {a : Addr} {o o' : Obj} (x : Led cx kp ((a, o) :: l) h) (hs : Heap.SameBut a h h') (ho : h'.get? a = some o') : Led cx kp ((a, o') :: l) h' := by
  have ne : ∀ p ∈ l, p.1 ≠ a := fun p hp e => by
    have := x.nodup; rw [List.map_cons, List.nodup_cons] at this
    exact this.1 (List.mem_map.mpr ⟨p, hp, e⟩)
  have na : ∀ b ob, kp b = some ob → b ≠ a := fun b ob e q => by
    rw [q] at e; have w : kp a = none := x.apart _ (.head _); rw [w] at e; cases e
  refine ⟨fun b ob e => ?_, fun p hp => ?_, x.nodup, fun p hp => ?_, x.base, fun b ob e => (hs.2 b (na b ob (x.base b ob e))).trans (x.sub b ob e)⟩
  · rw [hs.2 b (na b ob e)]
    exact x.kept b ob e
  · cases hp with
    | head => exact ⟨o', ho, .inl rfl⟩
    | tail _ hp =>
      obtain ⟨o₁, e, s⟩ := x.objs p (.tail _ hp)
      exact ⟨o₁, (hs.2 _ (ne p hp)).trans e, s⟩
  · cases hp with
    | head => have := x.apart _ (.head _); exact this
    | tail _ hp => exact x.apart p (.tail _ hp)
noncomputable def kadd (kp : KP) (l : Lg) : KP := fun a => (l.lookup a).or (kp a)
theorem lookup_of_mem_nodup' {α : Type} : ∀ {l : List (Addr × α)} {p : Addr × α}, (l.map (·.1)).Nodup → p ∈ l → l.lookup p.1 = some p.2
  | (b, ob) :: l, p, n, m => by
    rw [List.map_cons, List.nodup_cons] at n
    cases m with
    | head => rw [List.lookup_cons, beq_self_eq_true]
    | tail _ m =>
      have : (p.1 == b) = false := by
        rw [beq_eq_false_iff_ne]; intro e; exact n.1 (List.mem_map.mpr ⟨p, m, e⟩)
      rw [List.lookup_cons, this]
      exact lookup_of_mem_nodup' n.2 m
theorem mem_of_lookup {α : Type} : ∀ {l : List (Addr × α)} {a : Addr} {o : α}, l.lookup a = some o → (a, o) ∈ l
  | (b, x) :: l, a, o, e => by
    rw [List.lookup_cons] at e
    split at e
    · rename_i q; cases e; rw [beq_iff_eq.mp q]; exact .head _
    · exact .tail _ (mem_of_lookup e)
theorem kadd_sub (x : ∀ p ∈ l, kp p.1 = none) : ∀ a o, kp a = some o → kadd kp l a = some o := fun a o e => by
  unfold kadd
  cases q : l.lookup a with
  | none => exact e
  | some o' => have w : kp a = none := x _ (mem_of_lookup q); rw [w] at e; cases e
theorem kadd_new (n : (l.map (·.1)).Nodup) : ∀ p ∈ l, kadd kp l p.1 = some p.2 := fun p hp => by
  unfold kadd; rw [lookup_of_mem_nodup' n hp]; rfl
theorem Led.freeze {o : Lg} (x : Led cx kp (o ++ l) h) (nf : ∀ p ∈ o, p.2.cls ≠ .type "frame") : Led cx (kadd kp o) l h := by
  have n := x.nodup; rw [List.map_append] at n
  obtain ⟨n1, n2, n3⟩ := List.nodup_append.mp n
  refine ⟨fun a ob e => ?_, fun p hp => x.objs p (List.mem_append_right _ hp), n2, fun p hp => ?_, fun a ob e => kadd_sub (fun p hp => x.apart p (List.mem_append_left _ hp)) a ob (x.base a ob e), x.sub⟩
  · unfold kadd at e
    cases q : o.lookup a with
    | none => rw [q] at e; exact x.kept a ob e
    | some o' =>
      rw [q] at e; cases e
      have m := mem_of_lookup q
      exact ⟨_, x.get (List.mem_append_left _ m) (nf _ m), .refl⟩
  · unfold kadd
    cases q : o.lookup p.1 with
    | none => exact x.apart p (List.mem_append_right _ hp)
    | some o' => exact absurd rfl (n3 p.1 (List.mem_map.mpr ⟨_, mem_of_lookup q, rfl⟩) p.1 (List.mem_map_of_mem hp))
end
abbrev Ob := Nat → Lg
noncomputable def fl (n : Nat) (ob : Ob) : Lg := (List.range n).flatMap ob
noncomputable def oset (ob : Ob) (i : Nat) (x : Lg) : Ob := fun j => if j = i then x else ob j
theorem fl_succ (n : Nat) (ob : Ob) : fl (n + 1) ob = fl n ob ++ ob n := by simp [fl, List.range_succ]
theorem fl_congr {n : Nat} {ob ob' : Ob} (h : ∀ i, i < n → ob i = ob' i) : fl n ob = fl n ob' := by
  induction n with
  | zero => rfl
  | succ n ih => rw [fl_succ, fl_succ, ih fun i hi => h i (by lia), h n (by lia)]
theorem fl_oset_ge {n i : Nat} {ob : Ob} {x : Lg} (h : n ≤ i) : fl n (oset ob i x) = fl n ob := fl_congr fun j hj => by unfold oset; rw [if_neg (by lia)]
theorem fl_perm {n i : Nat} {ob : Ob} (x : Lg) (h : i < n) : (fl n (oset ob i x)).Perm (x ++ fl n (oset ob i [])) := by
  induction n with
  | zero => lia
  | succ n ih =>
    rw [fl_succ, fl_succ]
    by_cases q : i = n
    · subst q
      rw [fl_oset_ge (Nat.le_refl _), fl_oset_ge (Nat.le_refl _)]
      simp only [oset, if_pos, List.append_nil]
      exact List.perm_append_comm
    · have e : ∀ y, oset ob i y n = ob n := fun y => by unfold oset; rw [if_neg (Ne.symm q)]
      rw [e, e, ← List.append_assoc]
      exact (ih (by lia)).append_right _
theorem oset_self (ob : Ob) (i : Nat) : oset ob i (ob i) = ob := by funext j; unfold oset; split <;> simp_all
theorem fl_split {n i : Nat} {ob : Ob} (h : i < n) : (fl n ob).Perm (ob i ++ fl n (oset ob i [])) := by
  have := fl_perm (ob := ob) (ob i) h
  rwa [oset_self] at this
theorem oset_oset (ob : Ob) (i : Nat) (x y : Lg) : oset (oset ob i x) i y = oset ob i y := by funext j; unfold oset; split <;> rfl
noncomputable def Vars (cx : Cx) (kp : KP) (ρ : Nat → Option Value) (σ : Sg) (ob : Ob) : Prop := ∀ i t, gv σ i = some t → ∃ v, ρ i = some v ∧ Own cx kp v t (ob i)
structure Ste (cx : Cx) (n : Nat) (kp : KP) (ρ : Nat → Option Value) (σ : Sg) (ob : Ob) (X : Lg) (h : Heap) : Prop where
  led : Led cx kp (fl n ob ++ X) h
  vars : Vars cx kp ρ σ ob
  len : σ.length = n
theorem gv_lt {σ : Sg} {i : Nat} {t : T} (h : gv σ i = some t) : i < σ.length := by
  unfold gv at h
  by_cases q : i < σ.length
  · exact q
  · rw [List.getElem?_eq_none (by lia)] at h; cases h
theorem gv_set {σ : Sg} {i j : Nat} {x : Option T} : gv (σ.set i x) j = if i = j then (if i < σ.length then x else none) else gv σ j := by
  unfold gv
  rw [List.getElem?_set]
  split
  · split <;> rfl
  · rfl
section
variable {cx : Cx} {n : Nat} {kp kp' : KP} {ρ : Nat → Option Value} {σ : Sg} {ob : Ob} {X Y : Lg} {h h' : Heap}
theorem Ste.perm (x : Ste cx n kp ρ σ ob X h) (p : X.Perm Y) : Ste cx n kp ρ σ ob Y h := ⟨x.led.perm (p.append_left _), x.vars, x.len⟩
theorem Ste.dropX (x : Ste cx n kp ρ σ ob (X ++ Y) h) : Ste cx n kp ρ σ ob Y h :=
  ⟨(x.led.perm (show (fl n ob ++ (X ++ Y)).Perm ((fl n ob ++ Y) ++ X) by rw [List.append_assoc]; exact List.perm_append_comm.append_left _)).dropR, x.vars, x.len⟩
theorem Ste.grow (x : Ste cx n kp ρ σ ob X h) (k : ∀ b o, h.get? b = some o → h'.get? b = some o) : Ste cx n kp ρ σ ob X h' := ⟨x.led.grow k, x.vars, x.len⟩
theorem Ste.new {a : Addr} {o : Obj} (x : Ste cx n kp ρ σ ob X h) (k : ∀ b o, h.get? b = some o → h'.get? b = some o) (hn : h.get? a = none) (ha : h'.get? a = some o) : Ste cx n kp ρ σ ob ((a, o) :: X) h' :=
  ⟨(x.led.new k hn ha).perm List.perm_middle.symm, x.vars, x.len⟩
theorem Ste.push {o : Obj} (x : Ste cx n kp ρ σ ob X h) (hf : o.isFreed = false) : Ste cx n kp ρ σ ob ((h.objs.size, o) :: X) (h.push o) :=
  x.new (fun _ _ e => Heap.get?_push_of_some o e) (get?_size h) (Heap.get?_push_size _ hf)
theorem Vars.le (x : Vars cx kp ρ σ ob) (l : RepLe cx kp kp') : Vars cx kp' ρ σ ob := fun i t e => let ⟨v, a, b⟩ := x i t e; ⟨v, a, b.le l⟩
theorem Ste.freeze {o : Lg} (x : Ste cx n kp ρ σ ob (o ++ X) h) (nf : ∀ p ∈ o, p.2.cls ≠ .type "frame") :
    RepLe cx kp (kadd kp o) ∧ (∀ p ∈ o, kadd kp o p.1 = some p.2) ∧ Ste cx n (kadd kp o) ρ σ ob X h := by
  have L := x.led.perm (show (fl n ob ++ (o ++ X)).Perm (o ++ (fl n ob ++ X)) by
    rw [← List.append_assoc, ← List.append_assoc]; exact List.perm_append_comm.append_right _)
  have ap : ∀ p ∈ o, kp p.1 = none := fun p hp => L.apart p (List.mem_append_left _ hp)
  have le : RepLe cx kp (kadd kp o) := RepLe.of_sub (kadd_sub ap)
  have nd := L.nodup
  rw [List.map_append] at nd
  exact ⟨le, kadd_new (List.nodup_append.mp nd).1, L.freeze nf, x.vars.le le, x.len⟩
theorem Ste.take {i : Nat} {t : T} (x : Ste cx n kp ρ σ ob X h) (e : gv σ i = some t) :
    ∃ v, ρ i = some v ∧ Own cx kp v t (ob i) ∧ Ste cx n kp ρ (σ.set i none) (oset ob i []) (ob i ++ X) h := by
  obtain ⟨v, e1, e2⟩ := x.vars i t e
  have hi := gv_lt e
  have hn := x.len ▸ hi
  refine ⟨v, e1, e2, x.led.perm ?_, fun j u ej => ?_, by simpa using x.len⟩
  · exact ((fl_split hn).append_right _).trans (by
      rw [List.append_assoc, ← List.append_assoc, ← List.append_assoc]; exact List.perm_append_comm.append_right _)
  · rw [gv_set] at ej
    split at ej
    · simp at ej
    · rename_i q
      obtain ⟨v, a, b⟩ := x.vars j u ej
      exact ⟨v, a, by unfold oset; rw [if_neg (Ne.symm q)]; exact b⟩
theorem Ste.put {i : Nat} {t : T} {v : Value} {o : Lg} (x : Ste cx n kp ρ σ ob (o ++ X) h) (hi : i < n) (e : ρ i = some v) (w : Own cx kp v t o) :
    Ste cx n kp ρ (σ.set i (some t)) (oset ob i o) X h := by
  refine ⟨?_, fun j u ej => ?_, by simpa using x.len⟩
  · have p : (fl n ob ++ (o ++ X)).Perm ((fl n (oset ob i o) ++ X) ++ ob i) := by
      refine ((fl_split hi).append_right _).trans ?_
      refine List.Perm.trans ?_ (((fl_perm o hi).append_right X).append_right _).symm
      simp only [List.append_assoc]
      refine (List.perm_append_comm).trans ?_
      simp only [List.append_assoc]
      refine List.Perm.trans ?_ (List.perm_append_comm_assoc _ _ _)
      refine (List.perm_append_comm_assoc _ _ _).trans ?_
      exact List.perm_append_comm_assoc _ _ _
    exact (x.led.perm p).dropR
  · rw [gv_set] at ej
    split at ej
    · rename_i q
      rw [if_pos (x.len ▸ hi)] at ej; cases ej; subst q
      exact ⟨v, e, by unfold oset; rw [if_pos rfl]; exact w⟩
    · rename_i q
      obtain ⟨v, a, b⟩ := x.vars j u ej
      exact ⟨v, a, by unfold oset; rw [if_neg (Ne.symm q)]; exact b⟩
end
end Mine.Internal
end
section
open PySem PySem.W
set_option maxRecDepth 10000
namespace Mine.Internal
noncomputable def Gr (h h' : Heap) : Prop := ∀ b o, h.get? b = some o → h'.get? b = some o
theorem Gr.refl {h : Heap} : Gr h h := fun _ _ e => e
theorem Gr.trans {a b c : Heap} (x : Gr a b) (y : Gr b c) : Gr a c := fun k o e => y k o (x k o e)
mutual
noncomputable def View (cx : Cx) (kp : KP) (h : Heap) (v : Value) : T → Prop
  | .frz d => Rep cx kp v d
  | .olist ts => ∃ a vs n, v = .ref a ∧ h.get? a = some (lobj vs n) ∧ ViewL cx kp h vs ts
  | .oinst c fs => ∃ a d od m, v = .ref a ∧ h.get? a = some (instObj (cx.cA c) d) ∧ h.get? d = some od ∧ NsObj od m fs.length ∧ ViewF cx kp h m fs
  | .odict kvs => ∃ a od kv, v = .ref a ∧ h.get? a = some od ∧ DictObj cx a od kv ∧ ViewK cx kp h kv kvs
  | .oidict kvs => ∃ a od f, v = .ref a ∧ h.get? a = some od ∧ IntObj od f kvs.length ∧ OwnI cx kp f kvs
noncomputable def ViewL (cx : Cx) (kp : KP) (h : Heap) (vs : List Value) : List T → Prop
  | [] => vs = []
  | t :: ts => ∃ v r, vs = v :: r ∧ View cx kp h v t ∧ ViewL cx kp h r ts
noncomputable def ViewF (cx : Cx) (kp : KP) (h : Heap) (m : Str → Option Value) : List (String × T) → Prop
  | [] => True
  | (n, t) :: r => (∃ v, m (Str.ofString n) = some v ∧ View cx kp h v t) ∧ ViewF cx kp h m r
noncomputable def ViewK (cx : Cx) (kp : KP) (h : Heap) (kv : List (Str × Value)) : List (String × T) → Prop
  | [] => kv = []
  | (n, t) :: r => ∃ v q, kv = (Str.ofString n, v) :: q ∧ View cx kp h v t ∧ ViewK cx kp h q r
end
section
variable {cx : Cx} {kp : KP} {h h' : Heap}
mutual
theorem Own.view : ∀ {t : T} {v : Value} {o : Lg}, Own cx kp v t o → (∀ p ∈ o, h.get? p.1 = some p.2) → View cx kp h v t
  | .frz d, v, o, r, _ => r.2
  | .olist ts, v, o, r, k => by
    obtain ⟨a, vs, n, q, e1, e2, l⟩ := r
    subst e2
    exact ⟨a, vs, n, e1, k _ (.head _), OwnL.view l fun p hp => k p (.tail _ hp)⟩
  | .oinst c fs, v, o, r, k => by
    obtain ⟨a, d, od, m, q, e1, e2, _, ec, ns, l⟩ := r
    subst e2
    exact ⟨a, d, od, m, e1, k _ (.head _), k _ (.tail _ (.head _)), ns, OwnF.view l fun p hp => k p (.tail _ (.tail _ hp))⟩
  | .odict kvs, v, o, r, k => by
    obtain ⟨a, od, kv, q, e1, e2, dd, l⟩ := r
    subst e2
    exact ⟨a, od, kv, e1, k _ (.head _), dd, OwnK.view l fun p hp => k p (.tail _ hp)⟩
  | .oidict kvs, v, o, r, k => by
    obtain ⟨a, od, f, e1, e2, dd, l⟩ := r
    subst e2
    exact ⟨a, od, f, e1, k _ (.head _), dd, l⟩
theorem OwnL.view : ∀ {ts : List T} {vs : List Value} {o : Lg}, OwnL cx kp vs ts o → (∀ p ∈ o, h.get? p.1 = some p.2) → ViewL cx kp h vs ts
  | [], _, _, r, _ => r.1
  | t :: ts, vs, o, r, k => by
    obtain ⟨v, q, o1, o2, e1, e2, x, y⟩ := r
    subst e2
    exact ⟨v, q, e1, Own.view x fun p hp => k p (List.mem_append_left _ hp), OwnL.view y fun p hp => k p (List.mem_append_right _ hp)⟩
theorem OwnF.view : ∀ {ts : List (String × T)} {m : Str → Option Value} {o : Lg}, OwnF cx kp m ts o → (∀ p ∈ o, h.get? p.1 = some p.2) → ViewF cx kp h m ts
  | [], _, _, r, _ => trivial
  | (n, t) :: ts, m, o, r, k => by
    obtain ⟨v, o1, o2, e1, e2, x, y⟩ := r
    subst e2
    exact ⟨⟨v, e1, Own.view x fun p hp => k p (List.mem_append_left _ hp)⟩, OwnF.view y fun p hp => k p (List.mem_append_right _ hp)⟩
theorem OwnK.view : ∀ {ts : List (String × T)} {kv : List (Str × Value)} {o : Lg}, OwnK cx kp kv ts o → (∀ p ∈ o, h.get? p.1 = some p.2) → ViewK cx kp h kv ts
  | [], _, _, r, _ => r.1
  | (n, t) :: ts, kv, o, r, k => by
    obtain ⟨v, q, o1, o2, e1, e2, x, y⟩ := r
    subst e2
    exact ⟨v, q, e1, Own.view x fun p hp => k p (List.mem_append_left _ hp), OwnK.view y fun p hp => k p (List.mem_append_right _ hp)⟩
end
mutual
theorem View.grow (k : Gr h h') : ∀ {t : T} {v : Value}, View cx kp h v t → View cx kp h' v t
  | .frz d, v, r => by exact r
  | .olist ts, v, r => by
    obtain ⟨a, vs, n, e1, e2, l⟩ := r
    exact ⟨a, vs, n, e1, k _ _ e2, ViewL.grow k l⟩
  | .oinst c fs, v, r => by
    obtain ⟨a, d, od, m, e1, e2, e3, ns, l⟩ := r
    exact ⟨a, d, od, m, e1, k _ _ e2, k _ _ e3, ns, ViewF.grow k l⟩
  | .odict kvs, v, r => by
    obtain ⟨a, od, kv, e1, e2, dd, l⟩ := r
    exact ⟨a, od, kv, e1, k _ _ e2, dd, ViewK.grow k l⟩
  | .oidict kvs, v, r => by
    obtain ⟨a, od, f, e1, e2, dd, l⟩ := r
    exact ⟨a, od, f, e1, k _ _ e2, dd, l⟩
theorem ViewL.grow (k : Gr h h') : ∀ {ts : List T} {vs : List Value}, ViewL cx kp h vs ts → ViewL cx kp h' vs ts
  | [], _, r => r
  | t :: ts, vs, r => by
    obtain ⟨v, q, e1, x, y⟩ := r
    exact ⟨v, q, e1, View.grow k x, ViewL.grow k y⟩
theorem ViewF.grow (k : Gr h h') : ∀ {ts : List (String × T)} {m : Str → Option Value}, ViewF cx kp h m ts → ViewF cx kp h' m ts
  | [], _, r => trivial
  | (n, t) :: ts, m, r => by
    obtain ⟨⟨v, e1, x⟩, y⟩ := r
    exact ⟨⟨v, e1, View.grow k x⟩, ViewF.grow k y⟩
theorem ViewK.grow (k : Gr h h') : ∀ {ts : List (String × T)} {kv : List (Str × Value)}, ViewK cx kp h kv ts → ViewK cx kp h' kv ts
  | [], _, r => r
  | (n, t) :: ts, kv, r => by
    obtain ⟨v, q, e1, x, y⟩ := r
    exact ⟨v, q, e1, View.grow k x, ViewK.grow k y⟩
end
theorem RepL.length : ∀ {ds : List D} {vs : List Value}, RepL cx kp vs ds → vs.length = ds.length
  | [], _, r => congrArg List.length r
  | d :: ds, vs, r => by
    obtain ⟨v, q, e, _, y⟩ := r
    exact (congrArg List.length e).trans (congrArg Nat.succ (RepL.length y))
theorem RepL.get : ∀ {ds : List D} {vs : List Value} {i : Nat} {d : D}, RepL cx kp vs ds → ds[i]? = some d → ∃ v, vs[i]? = some v ∧ Rep cx kp v d
  | [], _, i, _, _, e => nos e
  | x :: ds, vs, i, d, r, e => by
    obtain ⟨v, q, e', x', y⟩ := r
    rw [e']
    cases i with
    | zero => exact ⟨v, rfl, Option.some.inj e ▸ x'⟩
    | succ i => exact RepL.get (i := i) y e
theorem ViewL.length : ∀ {ds : List T} {vs : List Value}, ViewL cx kp h vs ds → vs.length = ds.length
  | [], _, r => congrArg List.length r
  | d :: ds, vs, r => by
    obtain ⟨v, q, e, _, y⟩ := r
    exact (congrArg List.length e).trans (congrArg Nat.succ (ViewL.length y))
theorem ViewL.get : ∀ {ds : List T} {vs : List Value} {i : Nat} {d : T}, ViewL cx kp h vs ds → ds[i]? = some d → ∃ v, vs[i]? = some v ∧ View cx kp h v d
  | [], _, i, _, _, e => nos e
  | x :: ds, vs, i, d, r, e => by
    obtain ⟨v, q, e', x', y⟩ := r
    rw [e']
    cases i with
    | zero => exact ⟨v, rfl, Option.some.inj e ▸ x'⟩
    | succ i => exact ViewL.get (i := i) y e
theorem ofString_inj {a b : String} (e : Str.ofString a = Str.ofString b) : a = b := by
  rw [Str.ofString_eq_toList, Str.ofString_eq_toList] at e
  injection e with e
  have e' : a.toList.map Char.toNat = b.toList.map Char.toNat := by simpa using e
  refine String.toList_inj.mp ?_
  refine (List.map_inj_right fun x y q => ?_).mp e'
  exact Char.toNat_inj.mp q
theorem ofString_append (a b : String) : Str.ofString a ++ Str.ofString b = Str.ofString (a ++ b) := by
  rw [Str.ofString_eq_toList, Str.ofString_eq_toList, Str.ofString_eq_toList]
  show (⟨(a.toList.map Char.toNat).toArray ++ (b.toList.map Char.toNat).toArray⟩ : Str) = _
  simp
theorem ofString_ok (a : String) : PyData.strOk (Str.ofString a) = true := by
  rw [Str.ofString_eq_toList]
  unfold PyData.strOk
  simp only [List.all_toArray, List.all_map, List.all_eq_true]
  intro c _
  have := c.valid
  simp only [UInt32.isValidChar, Nat.isValidChar] at this
  simp only [Function.comp, decide_eq_true_eq]
  show c.val.toNat < _
  omega
theorem RepF.get : ∀ {fs : List (String × D)} {m : Str → Option Value} {n : String} {d : D}, RepF cx kp m fs → n ≠ "shared" → fs.lookup n = some d → ∃ v, m (Str.ofString n) = some v ∧ Rep cx kp v d
  | [], _, _, _, _, _, e => nos e
  | (x, t) :: fs, m, n, d, r, hn, e => by
    rw [List.lookup_cons] at e
    split at e
    · rename_i q; cases e; rw [beq_iff_eq.mp q]; exact r.1.imp fun v h => ⟨h.1, h.2 (beq_iff_eq.mp q ▸ hn)⟩
    · exact RepF.get r.2 hn e
theorem ViewF.get : ∀ {fs : List (String × T)} {m : Str → Option Value} {n : String} {d : T}, ViewF cx kp h m fs → fs.lookup n = some d → ∃ v, m (Str.ofString n) = some v ∧ View cx kp h v d
  | [], _, _, _, _, e => nos e
  | (x, t) :: fs, m, n, d, r, e => by
    rw [List.lookup_cons] at e
    split at e
    · rename_i q; cases e; rw [beq_iff_eq.mp q]; exact r.1
    · exact ViewF.get r.2 e
theorem RepK.get : ∀ {fs : List (String × D)} {kv : List (Str × Value)} {n : String}, RepK cx kp kv fs →
    (fs.lookup n = none → valueAt kv (Str.ofString n) = none) ∧ ∀ d, fs.lookup n = some d → ∃ v, valueAt kv (Str.ofString n) = some v ∧ Rep cx kp v d
  | [], _, _, r => by subst r; exact ⟨fun _ => rfl, fun _ e => by simp at e⟩
  | (x, t) :: fs, kv, n, r => by
    obtain ⟨v, q, e, r1, r2⟩ := r
    subst e
    have ih := RepK.get (n := n) r2
    rw [List.lookup_cons]
    unfold valueAt at ih ⊢
    by_cases c : n = x
    · subst c
      simp only [beq_self_eq_true]
      exact ⟨fun e => (by cases e), fun d e => by cases e; exact ⟨v, by simp, r1⟩⟩
    · have c1 : (n == x) = false := beq_eq_false_iff_ne.mpr c
      have c2 : ¬ Str.ofString x = Str.ofString n := fun e => c (ofString_inj e).symm
      simp only [c1, List.find?_cons, c2, decide_false]
      exact ih
theorem ViewK.get : ∀ {fs : List (String × T)} {kv : List (Str × Value)} {n : String}, ViewK cx kp h kv fs →
    ∀ d, fs.lookup n = some d → ∃ v, valueAt kv (Str.ofString n) = some v ∧ View cx kp h v d
  | [], _, _, _, _, e => nos e
  | (x, t) :: fs, kv, n, r, d, e => by
    obtain ⟨v, q, e', r1, r2⟩ := r
    subst e'
    have ih := ViewK.get (n := n) r2
    rw [List.lookup_cons] at e
    unfold valueAt at ih ⊢
    by_cases c : n = x
    · subst c
      simp only [beq_self_eq_true] at e
      cases e
      exact ⟨v, by simp, r1⟩
    · have c1 : (n == x) = false := beq_eq_false_iff_ne.mpr c
      have c2 : ¬ Str.ofString x = Str.ofString n := fun e => c (ofString_inj e).symm
      simp only [c1] at e
      simp only [List.find?_cons, c2, decide_false]
      exact ih d e
end
end Mine.Internal
end
section
open PySem PySem.W
set_option maxRecDepth 10000
namespace Mine.Internal
structure Bud (k : Nat) (A : Around) : Prop where
  handled : A.handled = none
  depth : A.depth + 4 * k + 200 < recursionLimit
  units : A.units + 8 * k + 200 < cLine
  frames : ∃ env l, A.frames = some (env :: l) ∧ env.scope.isGenerator = false ∧ env.scope.isCoroutine = false ∧ env.builtins = builtinsNs ∧ env.globals = mainGlobals
structure CxOK (cx : Cx) : Prop where
  inK : cx.K.In cx.base
  top : TopRead cx.p cx.loose cx.mg cx.mb cx.base
  seer : cx.base.NoSeer
  tree : cx.prog.given.tree = none
section
variable {cx : Cx} {kp : KP} {k : Nat} {A : Around} {Er : Value → Shared → Prop} {s : Shared} {l : Lg} {d : D}
theorem Bud.room (B : Bud k A) (H : CxOK cx) (L : Led cx kp l s.heap) : PylongRoom (model cx.prog cx.w) A s := by
  obtain ⟨env, fl, hf, h1, h2, h3, h4⟩ := B.frames
  refine PylongRoom.of (H.top.nolimit.keeps L.sub) ?_ (SeerAt.of (H.seer.keeps L.sub) H.tree hf h1 h2 h3 h4)
  have := B.depth
  show A.depth + 100 < recursionLimit
  lia
theorem mulOk {a b : Int} (h : fitsMul a b = true) : IntMulOk a b := by
  unfold fitsMul at h
  have h := of_decide_eq_true h
  unfold IntMulOk
  intro q
  simp only [Bool.and_eq_true, decide_eq_true_eq] at q
  obtain ⟨_, q⟩ := q
  unfold Builtin.Int.intTooBig bitsLine at q
  have q := of_decide_eq_true q
  have b1 : Builtin.Int.intBits a ≤ a.natAbs.log2 + 1 := by unfold Builtin.Int.intBits; split <;> lia
  have b2 : Builtin.Int.intBits b ≤ b.natAbs.log2 + 1 := by unfold Builtin.Int.intBits; split <;> lia
  lia
noncomputable def binOf : Prim → Option Operator
  | .add => some .Add
  | .sub => some .Sub
  | .mul => some .Mult
  | .fdiv => some .FloorDiv
  | .mod => some .Mod
  | _ => none
noncomputable def cmpOf : Prim → Option CmpOp
  | .eq => some .Eq
  | .ne => some .NotEq
  | .lt => some .Lt
  | .le => some .LtE
  | .gt => some .Gt
  | .ge => some .GtE
  | .isn => some .Is
  | .isnt => some .IsNot
  | .inn => some .In
  | .nin => some .NotIn
  | _ => none
abbrev After (cx : Cx) (kp : KP) (s : Shared) (r : T) (Q : Value → Shared → Prop) : Prop :=
  ∀ v h' tk, Gr s.heap h' → View cx kp h' v r → Q v { s with heap := h', toks := tk }
theorem View.int {h : Heap} {v : Value} {i : Int} (x : View cx kp h v (.frz (.int i))) : ∃ t, v = .int i t := x
theorem View.str {h : Heap} {v : Value} {i : String} (x : View cx kp h v (.frz (.str i))) : ∃ t, v = .str (Str.ofString i) t := x
theorem View.ofInt {h : Heap} {i : Int} {t : Tok} : View cx kp h (.int i t) (.frz (.int i)) := ⟨t, rfl⟩
theorem View.ofBool {h : Heap} {b : Bool} : View cx kp h (.bool b) (.frz (.bool b)) := (show _ = _ from rfl)
theorem View.ofStr {h : Heap} {i : String} {t : Tok} : View cx kp h (.str (Str.ofString i) t) (.frz (.str i)) := ⟨t, rfl⟩
theorem After.eq {r r' : T} {Q : Value → Shared → Prop} (e : some r = some r') (q : After cx kp s r' Q) : After cx kp s r Q := Option.some.inj e ▸ q
@[elab_as_elim] theorem View.intE {h : Heap} {v : Value} {t : T} {i : Int} {P : Value → Prop} (x : View cx kp h v t) (e : asInt t = some i) (k : ∀ τ, P (.int i τ)) : P v := by
  rw [asInt_inv e] at x
  obtain ⟨τ, rfl⟩ := x.int
  exact k τ
@[elab_as_elim] theorem View.strE {h : Heap} {v : Value} {t : T} {i : String} {P : Value → Prop} (x : View cx kp h v t) (e : asStr t = some i) (k : ∀ τ, P (.str (Str.ofString i) τ)) : P v := by
  rw [asStr_inv e] at x
  obtain ⟨τ, rfl⟩ := x.str
  exact k τ
theorem pInts_inv {f : Int → Int → Option D} {t u r : T} {G : Prop} (e : pInts f [t, u] = some r) (k : ∀ i j d, asInt t = some i → asInt u = some j → f i j = some d → some (T.frz d) = some r → G) : G :=
  binv (o := asInt t) e fun i e1 e => binv (o := asInt u) e fun j e2 e => binv e fun d e3 e => k i j d e1 e2 e3 e
theorem ints_of {f : Int → Int → Option D} {m : Value → Value → Sem Value} {a b : Value} {t u r : T} {Q : Value → Shared → Prop} (e : pInts f [t, u] = some r) (x : View cx kp s.heap a t) (y : View cx kp s.heap b u)
    (k : ∀ i j d t₁ t₂, f i j = some d → After cx kp s (.frz d) Q → wpAny (model cx.prog cx.w) A (m (.int i t₁) (.int j t₂)) Q Er s) (q : After cx kp s r Q) : wpAny (model cx.prog cx.w) A (m a b) Q Er s :=
  pInts_inv e fun i j d e1 e2 e3 e4 => x.intE e1 fun t₁ => y.intE e2 fun t₂ => k i j d t₁ t₂ e3 (q.eq e4)
theorem After.int {i : Int} {Q : Value → Shared → Prop} {t : Tok} {h : Heap} {tk : Nat} (e : some (D.int i) = some d) (q : After cx kp s (.frz d) Q) (g : Gr s.heap h) : Q (.int i t) { s with heap := h, toks := tk } := by
  cases e; exact q _ _ _ g .ofInt
theorem After.bool {b : Bool} {Q : Value → Shared → Prop} {h : Heap} {tk : Nat} (e : some (D.bool b) = some d) (q : After cx kp s (.frz d) Q) (g : Gr s.heap h) : Q (.bool b) { s with heap := h, toks := tk } := by
  cases e; exact q _ _ _ g .ofBool
theorem ifn {α : Type} {c : Prop} [d : Decidable c] {x : Option α} {b : α} {G : Prop} (e : (if c then none else x) = some b) (k : ¬ c → x = some b → G) : G := by
  cases d with
  | isTrue h => cases e
  | isFalse h => exact k h e
theorem add_sound {a b : Value} {t u r : T} {Q : Value → Shared → Prop} (e : pAdd [t, u] = some r) (x : View cx kp s.heap a t) (y : View cx kp s.heap b u) (q : After cx kp s r Q) :
    wpAny (model cx.prog cx.w) A (binaryOp .Add a b) Q Er s := by
  refine binv (o := asD t) e fun d1 e1 e => binv (o := asD u) e fun d2 e2 e => ?_
  cases d1 with
  | int i =>
    exact binv (o := d2.int?) e fun j e3 e => x.intE (i := i) (by rw [asD_inv e1]; rfl) fun t₁ => y.intE (i := j) (by rw [asD_inv e2]; exact e3) fun t₂ => P.add_int (q.eq e _ _ _ Gr.refl .ofInt)
  | str i =>
    refine binv (o := d2.str?) e fun j e3 e => ifv e fun hl e => x.strE (i := i) (by rw [asD_inv e1]; rfl) fun t₁ => y.strE (i := j) (by rw [asD_inv e2]; exact e3) fun t₂ => ?_
    refine PyProof.Rows.add_str (fun t' tk => ?_) ?_
    · rw [ofString_append]; exact q.eq e _ _ _ Gr.refl .ofStr
    · rw [ofString_length, ofString_length, sizeLine_eq]; lia
  | _ => cases e
theorem bin_sound (H : CxOK cx) (B : Bud k A) (L : Led cx kp l s.heap) {o : Prim} {op : Operator} {a b : Value} {t u r : T} {Q : Value → Shared → Prop}
    (ho : binOf o = some op) (e : prim o [t, u] = some r) (x : View cx kp s.heap a t) (y : View cx kp s.heap b u) (q : After cx kp s r Q) :
    wpAny (model cx.prog cx.w) A (binaryOp op a b) Q Er s := by
  cases o <;> cases ho
  · exact add_sound e x y q
  · exact ints_of (m := binaryOp .Sub) e x y (fun i j d t₁ t₂ e q => P.sub_int (q.int e Gr.refl)) q
  · exact ints_of (m := binaryOp .Mult) e x y (fun i j d t₁ t₂ e q => ifv e fun h e => P.mul_int (q.int e Gr.refl) (mulOk h)) q
  · exact ints_of (m := binaryOp .FloorDiv) e x y (fun i j d t₁ t₂ e q => ifn e fun h e => PyProof.Rows.floordiv_int h (q.int e Gr.refl) (.inr (B.room H L))) q
  · exact ints_of (m := binaryOp .Mod) e x y (fun i j d t₁ t₂ e q => ifn e fun h e => PyProof.Rows.mod_int' h (q.int e Gr.refl)) q
mutual
noncomputable def toPy : D → Option PyData
  | .none => some .none
  | .bool b => some (.bool b)
  | .int i => some (.int i)
  | .str s => some (.str (Str.ofString s))
  | .tup ds => (toPyL ds).map .tuple
  | .list ds => (toPyL ds).map .list
  | _ => none
noncomputable def toPyL : List D → Option (List PyData)
  | [] => some []
  | d :: ds => (toPy d).bind fun x => (toPyL ds).map fun xs => x :: xs
end
mutual
theorem toPy_reads {h : Heap} (kh : ∀ a o vs n, kp a = some o → o.data = .seq vs n → h.get? a = some o) : ∀ {d : D} {v : Value} {p : PyData}, toPy d = some p → Rep cx kp v d → ∃ as, Reads h v p as
  | .none, v, p, e, r => by cases e; cases (show v = .none from r); exact ⟨_, .none⟩
  | .bool b, v, p, e, r => by cases e; cases (show v = .bool b from r); exact ⟨_, .bool _⟩
  | .int b, v, p, e, r => by cases e; obtain ⟨t, r⟩ := r; subst r; exact ⟨_, .int _ _⟩
  | .str b, v, p, e, r => by cases e; obtain ⟨t, r⟩ := r; subst r; exact ⟨_, .str _ _⟩
  | .tup ds, v, p, e, r => by
    refine mapv (o := toPyL ds) e fun ps e1 e2 => ?_
    cases e2
    obtain ⟨a, o, vs, n, rfl, k, c, dt, r⟩ := r
    obtain ⟨as, q⟩ := toPyL_reads kh e1 r
    exact ⟨_, .tuple (kh _ _ _ _ k dt) c dt q⟩
  | .list ds, v, p, e, r => by
    refine mapv (o := toPyL ds) e fun ps e1 e2 => ?_
    cases e2
    obtain ⟨a, vs, n, rfl, k, r⟩ := r
    obtain ⟨as, q⟩ := toPyL_reads kh e1 r
    exact ⟨_, .list (kh _ _ _ _ k rfl) rfl rfl (by simpa using q)⟩
  | .any, _, _, e, _ => nos e
  | .src _, _, _, e, _ => nos e
  | .inst _ _, _, _, e, _ => nos e
  | .dict _, _, _, e, _ => nos e
theorem toPyL_reads {h : Heap} (kh : ∀ a o vs n, kp a = some o → o.data = .seq vs n → h.get? a = some o) : ∀ {ds : List D} {vs : List Value} {ps : List PyData}, toPyL ds = some ps → RepL cx kp vs ds → ∃ as, ReadsAll h vs ps as
  | [], vs, ps, e, r => by cases e; cases (show vs = [] from r); exact ⟨_, .nil⟩
  | d :: ds, vs, ps, e, r => by
    refine binv (o := toPy d) e fun x e1 e => mapv (o := toPyL ds) e fun xs e2 e => ?_
    cases e
    obtain ⟨v, q, rfl, r1, r2⟩ := r
    obtain ⟨as, z⟩ := toPy_reads kh e1 r1
    obtain ⟨bs, w⟩ := toPyL_reads kh e2 r2
    exact ⟨_, .cons z w⟩
end
noncomputable def Pl (k : Nat) (p : PyData) : Prop := p.canLay0 = true ∧ p.depth ≤ k + 1
theorem toPyL_cons {d : D} {ds : List D} : toPyL (d :: ds) = (toPy d).bind fun x => (toPyL ds).map fun xs => x :: xs := rfl
theorem lay_cons {p : PyData} {ps : List PyData} : PyData.canLayAll0 (p :: ps) = (p.canLay0 && PyData.canLayAll0 ps) := rfl
theorem pyEqR_toPy {k : Nat} {f : D → D → Option Bool} (hf : ∀ a b r, f a b = some r → ∃ p q, toPy a = some p ∧ toPy b = some q ∧ Pl k p ∧ Pl k q ∧ PyData.eqv p q = r) :
    ∀ {y : List D} {r : Bool}, pyEqR f y = some r → ∃ q, toPyL y = some q ∧ PyData.canLayAll0 q = true ∧ PyData.depthAll q ≤ k + 1 ∧ PyData.eqvAll [] q = r
  | [], r, e => by cases e; exact ⟨[], rfl, rfl, Nat.zero_le _, rfl⟩
  | d :: y, r, e => by
    refine binv (o := f d d) e fun b1 e1 e => binv (o := pyEqR f y) e fun b2 e2 e => ?_
    cases e
    obtain ⟨p, q, a1, a2, h1, h2, a3⟩ := hf _ _ _ e1
    obtain ⟨qs, c2, g3, g4, c3⟩ := pyEqR_toPy hf e2
    exact ⟨q :: qs, by rw [toPyL_cons, a2, c2]; rfl, by rw [lay_cons, h2.1, g3]; rfl, Nat.max_le.mpr ⟨h2.2, g4⟩, rfl⟩
theorem pyEqL_toPy {k : Nat} {f : D → D → Option Bool} (hf : ∀ a b r, f a b = some r → ∃ p q, toPy a = some p ∧ toPy b = some q ∧ Pl k p ∧ Pl k q ∧ PyData.eqv p q = r) :
    ∀ {x y : List D} {r : Bool}, pyEqL f x y = some r →
      ∃ p q, toPyL x = some p ∧ toPyL y = some q ∧ PyData.canLayAll0 p = true ∧ PyData.depthAll p ≤ k + 1 ∧ PyData.canLayAll0 q = true ∧ PyData.depthAll q ≤ k + 1 ∧ PyData.eqvAll p q = r
  | [], y, r, e => by
    obtain ⟨q, c2, g3, g4, c3⟩ := pyEqR_toPy hf (y := y) e
    exact ⟨[], q, rfl, c2, rfl, Nat.zero_le _, g3, g4, c3⟩
  | d :: x, [], r, e => by
    refine binv (o := f d d) e fun b1 e1 e => binv (o := pyEqL f x []) e fun b2 e2 e => ?_
    cases e
    obtain ⟨p, q, a1, a2, h1, h2, a3⟩ := hf _ _ _ e1
    obtain ⟨ps, qs, c1, c2, g1, g2, g3, g4, c3⟩ := pyEqL_toPy hf e2
    exact ⟨p :: ps, [], by rw [toPyL_cons, a1, c1]; rfl, rfl, by rw [lay_cons, h1.1, g1]; rfl, Nat.max_le.mpr ⟨h1.2, g2⟩, rfl, Nat.zero_le _, rfl⟩
  | c :: x, d :: y, r, e => by
    refine binv (o := f c d) e fun b1 e1 e => binv (o := pyEqL f x y) e fun b2 e2 e => ?_
    cases e
    obtain ⟨p, q, a1, a2, h1, h2, a3⟩ := hf _ _ _ e1
    obtain ⟨ps, qs, c1, c2, g1, g2, g3, g4, c3⟩ := pyEqL_toPy hf e2
    exact ⟨p :: ps, q :: qs, by rw [toPyL_cons, a1, c1]; rfl, by rw [toPyL_cons, a2, c2]; rfl, by rw [lay_cons, h1.1, g1]; rfl, Nat.max_le.mpr ⟨h1.2, g2⟩, by rw [lay_cons, h2.1, g3]; rfl, Nat.max_le.mpr ⟨h2.2, g4⟩, by rw [← a3, ← c3]; rfl⟩
theorem pyEqS_toPy (k : Nat) (a b : D) (r : Bool) (e : pyEqS a b = some r) : ∃ p q, toPy a = some p ∧ toPy b = some q ∧ Pl k p ∧ Pl k q ∧ PyData.eqv p q = r := by
  have str : ∀ s, Pl k (.str (Str.ofString s)) := fun s => ⟨by simp [PyData.canLay0, ofString_ok], by simp [PyData.depth]⟩
  have int : ∀ s, Pl k (.int s) := fun s => ⟨rfl, by simp [PyData.depth]⟩
  have non : Pl k .none := ⟨rfl, by simp [PyData.depth]⟩
  have boo : ∀ s, Pl k (.bool s) := fun s => ⟨rfl, by simp [PyData.depth]⟩
  cases a with
  | int x => cases b with
    | int y =>
      cases e
      refine ⟨_, _, rfl, rfl, int _, int _, ?_⟩
      simp only [PyData.eqv]
      by_cases q : x = y <;> simp [q]
    | none => cases e; exact ⟨_, _, rfl, rfl, int _, non, rfl⟩
    | _ => cases e
  | str x => cases b with
    | str y =>
      cases e
      refine ⟨_, _, rfl, rfl, str _, str _, ?_⟩
      simp only [PyData.eqv]
      by_cases q : x = y
      · subst q; simp
      · have : ¬ Str.ofString x = Str.ofString y := fun z => q (ofString_inj z)
        simp [q, this]
    | none => cases e; exact ⟨_, _, rfl, rfl, str _, non, rfl⟩
    | _ => cases e
  | bool x => cases b with
    | bool y =>
      cases e
      refine ⟨_, _, rfl, rfl, boo _, boo _, ?_⟩
      simp only [PyData.eqv]
      by_cases q : x = y <;> simp [q]
    | _ => cases e
  | none => cases b with
    | none => cases e; exact ⟨_, _, rfl, rfl, non, non, rfl⟩
    | int y => cases e; exact ⟨_, _, rfl, rfl, non, int _, rfl⟩
    | str y => cases e; exact ⟨_, _, rfl, rfl, non, str _, rfl⟩
    | _ => cases e
  | _ => cases e
theorem pyEq_toPy : ∀ (k : Nat) (a b : D) (r : Bool), pyEq k a b = some r → ∃ p q, toPy a = some p ∧ toPy b = some q ∧ Pl k p ∧ Pl k q ∧ PyData.eqv p q = r := by
  intro k
  induction k with
  | zero => intro a b r e; exact pyEqS_toPy 0 a b r e
  | succ k ih =>
    intro a b r e
    cases a with
    | tup x => cases b with
      | tup y =>
        obtain ⟨p, q, c1, c2, g1, g2, g3, g4, c3⟩ := pyEqL_toPy ih (x := x) (y := y) e
        exact ⟨.tuple p, .tuple q, congrArg (·.map PyData.tuple) c1, congrArg (·.map PyData.tuple) c2, ⟨g1, Nat.add_le_add_right g2 1⟩, ⟨g3, Nat.add_le_add_right g4 1⟩, c3⟩
      | _ => cases e
    | list x => cases b with
      | list y =>
        obtain ⟨p, q, c1, c2, g1, g2, g3, g4, c3⟩ := pyEqL_toPy ih (x := x) (y := y) e
        exact ⟨.list p, .list q, congrArg (·.map PyData.list) c1, congrArg (·.map PyData.list) c2, ⟨g1, Nat.add_le_add_right g2 1⟩, ⟨g3, Nat.add_le_add_right g4 1⟩, c3⟩
      | _ => cases e
    | _ => exact pyEqS_toPy _ _ _ r e
theorem Pl.shaped {k : Nat} {p : PyData} (h : Pl k p) (hk : k ≤ 60) : SeqAt.shaped p = true := by
  unfold SeqAt.shaped
  rw [h.1, Bool.true_and]
  have := h.2
  exact decide_eq_true (by lia)
theorem rep_of_view {h : Heap} {v : Value} {d : D} (x : View cx kp h v (.frz d)) : Rep cx kp v d := x
theorem view_of_rep {h : Heap} {v : Value} {d : D} (x : Rep cx kp v d) : View cx kp h v (.frz d) := x
theorem eq_sound (B : Bud k A) (L : Led cx kp l s.heap) {a b : Value} {x y : D} {r : Bool} (e : pyEq 4 x y = some r) (ra : Rep cx kp a x) (rb : Rep cx kp b y) :
    (∀ {Q : Value → Shared → Prop}, Q (.bool r) s → wpAny (model cx.prog cx.w) A (compareOp .Eq a b) Q Er s) ∧
    (∀ {Q : Value → Shared → Prop}, Q (.bool !r) s → wpAny (model cx.prog cx.w) A (compareOp .NotEq a b) Q Er s) := by
  obtain ⟨p, q, e1, e2, h1, h2, rfl⟩ := pyEq_toPy 4 x y r e
  obtain ⟨as, z1⟩ := toPy_reads (fun _ _ _ _ => L.keptSeq) e1 ra
  obtain ⟨bs, z2⟩ := toPy_reads (fun _ _ _ _ => L.keptSeq) e2 rb
  have hu : A.units + 64 < cLine := by have := B.units; lia
  exact ⟨fun h => SeqAt.compareEq_shaped z1 z2 (h1.shaped (by lia)) (h2.shaped (by lia)) hu h, fun h => SeqAt.compareNe_shaped z1 z2 (h1.shaped (by lia)) (h2.shaped (by lia)) hu h⟩
theorem pyIn_toPy {x : D} : ∀ {ys : List D} {r : Bool} {p : PyData}, toPy x = some p → pyIn x ys = some r → ∃ qs, toPyL ys = some qs ∧ PyData.canLayAll0 qs = true ∧ PyData.depthAll qs ≤ 1 ∧ (qs.any fun y => PyData.eqv y p) = r
  | [], r, p, _, e => by cases e; exact ⟨[], rfl, rfl, Nat.zero_le _, rfl⟩
  | y :: ys, r, p, ep, e => by
    refine binv (o := pyEqS y x) e fun b1 e1 e => binv (o := pyIn x ys) e fun b2 e2 e => ?_
    cases e
    obtain ⟨q, p', a1, a2, h1, h2, rfl⟩ := pyEqS_toPy 0 _ _ _ e1
    rw [ep] at a2; cases a2
    obtain ⟨qs, c1, c2, c3, rfl⟩ := pyIn_toPy ep e2
    exact ⟨q :: qs, by rw [toPyL_cons, a1, c1]; rfl, by rw [lay_cons, h1.1, c2]; rfl, Nat.max_le.mpr ⟨h1.2, c3⟩, rfl⟩
theorem scalar_toPy {d : D} (h : scalar d = true) : ∃ p, toPy d = some p ∧ Pl 0 p := by
  cases d <;> first | (cases h; done) | exact ⟨_, rfl, by simp [PyData.canLay0, ofString_ok], by simp [PyData.depth]⟩
theorem in_sound (B : Bud k A) (L : Led cx kp l s.heap) {a b : Value} {x : D} {ys : List D} {r : Bool} (hs : scalar x = true) (e : pyIn x ys = some r) (ra : Rep cx kp a x) (rb : Rep cx kp b (.list ys)) :
    (∀ {Q : Value → Shared → Prop}, Q (.bool r) s → wpAny (model cx.prog cx.w) A (compareOp .In a b) Q Er s) ∧
    (∀ {Q : Value → Shared → Prop}, Q (.bool !r) s → wpAny (model cx.prog cx.w) A (compareOp .NotIn a b) Q Er s) := by
  obtain ⟨p, e1, h1⟩ := scalar_toPy hs
  obtain ⟨qs, c1, c2, c3, rfl⟩ := pyIn_toPy e1 e
  obtain ⟨as, z1⟩ := toPy_reads (fun _ _ _ _ => L.keptSeq) e1 ra
  obtain ⟨bs, z2⟩ := toPy_reads (fun _ _ _ _ => L.keptSeq) (show toPy (.list ys) = some (.list qs) from congrArg (·.map PyData.list) c1) rb
  have hu : A.units + 1 + min (PyData.depthAll qs) p.depth < cLine := by have := B.units; have := h1.2; lia
  exact ⟨fun h => SeqAt.in_list_reads z2 z1 c2 h1.1 hu h, fun h => SeqAt.notIn_list_reads z2 z1 c2 h1.1 hu h⟩
end
end Mine.Internal
end
section
open PySem PySem.W
set_option maxRecDepth 10000
namespace Mine.Internal
noncomputable def attrNames : List String := ["args", "assign", "attrs", "bases", "coefficients", "columns", "df", "factors", "fitted", "frame", "intercept", "items", "kind", "loose", "names", "norms", "offset", "offsets", "pivots", "rank", "residuals", "response", "rows", "shares", "steps", "terms", "variables", "weights", "y"]
noncomputable def AttrOK (K : Frag) (C : Addr) (n : Str) : Bool :=
  plainGet K C n && hasDictIn K C && (findIn K (.ref C) n == some none) && (findIn K (.ref C) "__setattr__" == some (some (.builtin "object.__setattr__"))) && plainOver K C && (takerIn K C n == some none)
structure ClsOK (cx : Cx) : Prop where
  attr : ∀ c n, n ∈ attrNames → AttrOK cx.K (cx.cA c) (Str.ofString n) = true
  shared : ∀ c, AttrOK cx.K (cx.cA c) "shared" = true
section
variable {cx : Cx} {kp : KP} {k : Nat} {A : Around} {Er : Value → Shared → Prop} {s : Shared} {l : Lg}
theorem attr_get {K : Frag} {C : Addr} {n : Str} (h : AttrOK K C n = true) : plainGet K C n = true ∧ hasDictIn K C = true ∧ findIn K (.ref C) n = some none := by
  unfold AttrOK at h
  simp only [Bool.and_eq_true] at h
  exact ⟨h.1.1.1.1.1, h.1.1.1.1.2, beq_iff_eq.mp h.1.1.1.2⟩
theorem attr_set {K : Frag} {C : Addr} {n : Str} (h : AttrOK K C n = true) :
    findIn K (.ref C) "__setattr__" = some (some (.builtin "object.__setattr__")) ∧ plainOver K C = true ∧ takerIn K C n = some none ∧ hasDictIn K C = true := by
  unfold AttrOK at h
  simp only [Bool.and_eq_true] at h
  exact ⟨beq_iff_eq.mp h.1.1.2, h.1.2, beq_iff_eq.mp h.2, h.1.1.1.1.2⟩
theorem ns_lookIn {o : Obj} {m : Str → Option Value} {j : Nat} {n : Str} (h : NsObj o m j) : lookIn n o = some (m n) := by
  obtain ⟨es, ep, hd, hk, _, hm⟩ := h
  unfold lookIn
  rw [hd]
  dsimp only
  rw [← hm n]
  unfold nsFind findBy
  rw [← Array.find?_toList]
  cases q : es.toList.find? (fun x => x.key.isStr n) with
  | some e => rfl
  | none =>
    have : es.toList.any (·.refKey) = false := by
      rw [List.any_eq_false]
      intro e he
      obtain ⟨x, t, z⟩ := hk e (Array.mem_toList_iff.mp he)
      simp [DictEntry.refKey, z]
    simp [this]
theorem handed_rep {v : Value} {d : D} (h : Rep cx kp v d) (hd : d ≠ .any) : handedIn v = true := by
  cases d with
  | any => exact absurd rfl hd
  | none => exact (show v = _ from h) ▸ rfl
  | bool b => exact (show v = _ from h) ▸ rfl
  | int i => obtain ⟨_, e⟩ := h; exact e ▸ rfl
  | str i => obtain ⟨_, e⟩ := h; exact e ▸ rfl
  | tup l => obtain ⟨_, _, _, _, e, _⟩ := h; exact e ▸ rfl
  | list l => obtain ⟨_, _, _, e, _⟩ := h; exact e ▸ rfl
  | src l => obtain ⟨_, _, _, _, e, _⟩ := h; exact e ▸ rfl
  | inst c l => obtain ⟨_, _, _, _, _, e, _⟩ := h; exact e ▸ rfl
  | dict l => obtain ⟨_, _, _, e, _⟩ := h; exact e ▸ rfl
theorem attr_core (H : CxOK cx) (L : Led cx kp l s.heap) {x d C : Addr} {ox od : Obj} {m : Str → Option Value} {j : Nat} {n : Str} {v : Value} {Q : Value → Shared → Prop}
    (hA : AttrOK cx.K C n = true) (hx : s.heap.get? x = some ox) (hc : ox.cls = .ref C) (hn : notCls ox = true) (hd : ox.dict = some d) (ho : s.heap.get? d = some od) (ns : NsObj od m j) (hm : m n = some v) (hv : handedIn v = true)
    (q : Q v { s with toks := s.toks + 1 }) : wpAny (model cx.prog cx.w) A (getAttr (.ref x) n true) Q Er s := by
  obtain ⟨h1, h2, h3⟩ := attr_get hA
  have I : PySem.W.InstAt s.heap x ox C (some od) := ⟨hx, hc, hn, by rw [hd]; exact ho⟩
  exact get_value (H.inK.keeps L.sub) I (plainGet_of h1).1 (findObj_own h2 h3 rfl (by rw [ns_lookIn ns, hm])) hv q
theorem notAny_inv {d : D} {r : T} (e : notAny d = some r) : d ≠ .any ∧ some (T.frz d) = some r := by
  cases d <;> first | (cases e; done) | exact ⟨nofun, e⟩
theorem handed_view {h : Heap} {v : Value} {t : T} (x : View cx kp h v t) (hd : t ≠ .frz .any) : handedIn v = true := by
  cases t with
  | frz d => exact handed_rep (rep_of_view x) fun z => hd (by rw [z])
  | olist ts => obtain ⟨_, _, _, rfl, _⟩ := x; rfl
  | oinst c fs => obtain ⟨_, _, _, _, rfl, _⟩ := x; rfl
  | odict kvs => obtain ⟨_, _, _, rfl, _⟩ := x; rfl
  | oidict kvs => obtain ⟨_, _, _, rfl, _⟩ := x; rfl
theorem notAnyT_inv {t r : T} (e : notAnyT t = some r) : t ≠ .frz .any ∧ some t = some r := by
  cases t with
  | frz d => exact (notAny_inv e).imp (fun h z => h (Option.some.inj (congrArg asD z))) id
  | _ => exact ⟨nofun, e⟩
theorem attr_sound (H : CxOK cx) (HC : ClsOK cx) (L : Led cx kp l s.heap) {n : String} {a : Value} {t r : T} {Q : Value → Shared → Prop}
    (hn : n ∈ attrNames) (e : prim (.attr n) [t] = some r) (x : View cx kp s.heap a t) (q : After cx kp s r Q) : wpAny (model cx.prog cx.w) A (getAttr a (Str.ofString n) true) Q Er s := by
  cases t with
  | frz d =>
    refine binv (o := d.inst?) e fun ⟨c, fs⟩ e1 e => binv (o := fs.lookup n) e fun d2 hl e => ?_
    rw [D.inst_inv e1] at x
    obtain ⟨hd, e⟩ := notAny_inv e
    have x := rep_of_view x
    obtain ⟨a', dd, od, m, j, rfl, k1, k2, _, ns, rf⟩ := x
    have hs : n ≠ "shared" := fun z => by subst z; revert hn; decide
    obtain ⟨v, hm, rv⟩ := RepF.get rf hs hl
    obtain ⟨o', m', g1, g2, g3⟩ := L.keptNs k2 ns
    have hm' : m' (Str.ofString n) = some v := by
      rw [g3 _ fun z => hs (ofString_inj z)]; exact hm
    exact attr_core H L (HC.attr c n hn) (L.keptInst k1) rfl rfl rfl g1 g2 hm' (handed_rep rv hd) (q.eq e _ _ _ Gr.refl (view_of_rep rv))
  | oinst c fs =>
    refine binv (o := fs.lookup n) e fun d hl e => ?_
    obtain ⟨a', dd, od, m, rfl, k1, k2, ns, rf⟩ := x
    obtain ⟨v, hm, rv⟩ := ViewF.get rf hl
    obtain ⟨hd, e⟩ := notAnyT_inv e
    exact attr_core H L (HC.attr c n hn) k1 rfl rfl rfl k2 ns hm (handed_view rv hd) (q.eq e _ _ _ Gr.refl rv)
  | _ => cases e
end
end Mine.Internal
end
section
open PySem PySem.W
set_option maxRecDepth 10000
namespace Mine.Internal
section
variable {cx : Cx} {kp : KP} {k : Nat} {A : Around} {Er : Value → Shared → Prop} {s : Shared} {l : Lg}
theorem isNone_val {v : Value} {d : D} {b : Bool} (h : Rep cx kp v d) (e : isNone d = some b) : plainIs v .none = true ∧ (v == .none) = b := by
  cases d with
  | any => exact nos e
  | none => cases e; cases (show v = _ from h); exact ⟨rfl, rfl⟩
  | bool b => cases e; cases (show v = _ from h); exact ⟨rfl, rfl⟩
  | int i => cases e; obtain ⟨_, e⟩ := h; subst e; exact ⟨rfl, rfl⟩
  | str i => cases e; obtain ⟨_, e⟩ := h; subst e; exact ⟨rfl, rfl⟩
  | tup l => cases e; obtain ⟨_, _, _, _, e, _⟩ := h; subst e; exact ⟨rfl, rfl⟩
  | list l => cases e; obtain ⟨_, _, _, e, _⟩ := h; subst e; exact ⟨rfl, rfl⟩
  | src l => cases e; obtain ⟨_, _, _, _, e, _⟩ := h; subst e; exact ⟨rfl, rfl⟩
  | inst c l => cases e; obtain ⟨_, _, _, _, _, e, _⟩ := h; subst e; exact ⟨rfl, rfl⟩
  | dict l => cases e; obtain ⟨_, _, _, e, _⟩ := h; subst e; exact ⟨rfl, rfl⟩
theorem pEq_inv {f : Bool → Bool} {t u r : T} {G : Prop} (e : pEq f [t, u] = some r) (k : ∀ a b z, t = .frz a → u = .frz b → pyEq 4 a b = some z → some (T.frz (.bool (f z))) = some r → G) : G :=
  binv (o := asD t) e fun a e1 e => binv (o := asD u) e fun b e2 e => binv e fun z e3 e => k a b z (asD_inv e1) (asD_inv e2) e3 e
theorem pIs_inv {f : Bool → Bool} {t u r : T} {G : Prop} (e : pIs f [t, u] = some r) (k : ∀ a z, t = .frz a → u = .frz .none → isNone a = some z → some (T.frz (.bool (f z))) = some r → G) : G :=
  binv (o := asD t) e fun a e1 e => binv (o := asD u) e fun b e2 e => binv (o := b.none?) e fun _ e4 e => binv e fun z e3 e => k a z (asD_inv e1) (by rw [asD_inv e2, D.none_inv e4]) e3 e
theorem is_sound {f : Bool → Bool} {op : CmpOp} {a b : Value} {t u r : T} {Q : Value → Shared → Prop} (e : pIs f [t, u] = some r) (x : View cx kp s.heap a t) (y : View cx kp s.heap b u) (q : After cx kp s r Q)
    (k : plainIs a .none = true → Q (.bool (f (a == .none))) { s with heap := s.heap, toks := s.toks } → wpAny (model cx.prog cx.w) A (compareOp op a .none) Q Er s) : wpAny (model cx.prog cx.w) A (compareOp op a b) Q Er s := by
  refine pIs_inv e fun d z e1 e2 e3 e => ?_
  rw [e1] at x
  rw [e2] at y
  have y := rep_of_view y
  rw [y]
  obtain ⟨h1, h2⟩ := isNone_val (rep_of_view x) e3
  exact k h1 (h2 ▸ q.eq e _ _ _ Gr.refl .ofBool)
theorem inn_sound (B : Bud k A) (L : Led cx kp l s.heap) {f : Bool → Bool} {op : CmpOp} {a b : Value} {t u r : T} {Q : Value → Shared → Prop} (e : pIn f [t, u] = some r) (x : View cx kp s.heap a t) (y : View cx kp s.heap b u) (q : After cx kp s r Q)
    (k1 : ∀ {x ys z}, scalar x = true → pyIn x ys = some z → Rep cx kp a x → Rep cx kp b (.list ys) → Q (.bool (f z)) s → wpAny (model cx.prog cx.w) A (compareOp op a b) Q Er s) (k2 : f true = true → op = .In) : wpAny (model cx.prog cx.w) A (compareOp op a b) Q Er s := by
  refine binv (o := asD t) e fun d e1 e => ?_
  rw [asD_inv e1] at x
  cases u with
  | frz d2 =>
    refine binv (o := d2.list?) e fun ys e2 e => ifv e fun hs e => binv e fun z e3 e => ?_
    rw [D.list_inv e2] at y
    exact k1 hs e3 (rep_of_view x) (rep_of_view y) (q.eq e _ _ _ Gr.refl .ofBool)
  | oidict kvs =>
    refine binv (o := d.int?) e fun i e2 e => ifv e fun hs e => ?_
    cases k2 hs
    rw [D.int_inv e2] at x
    obtain ⟨τ, rfl⟩ := x.int
    obtain ⟨a', od, m, rfl, hk, ⟨es, ep, c1, c2, c3, c4, c5⟩, hf⟩ := y
    refine wpAny_in_intMap (f := m) ⟨od, es, ep, hk, c1, c2, c3, c5⟩ ?_
    have : (m i).isSome = (kvs.lookup i).isSome := by
      cases z : kvs.lookup i with
      | none => rw [hf.1 i z]; rfl
      | some d => obtain ⟨v, e, _⟩ := hf.2 i d z; rw [e]; rfl
    rw [this]
    exact q.eq e _ _ _ Gr.refl .ofBool
  | _ => cases e
theorem cmp_sound (B : Bud k A) (L : Led cx kp l s.heap) {o : Prim} {op : CmpOp} {a b : Value} {t u r : T} {Q : Value → Shared → Prop}
    (ho : cmpOf o = some op) (e : prim o [t, u] = some r) (x : View cx kp s.heap a t) (y : View cx kp s.heap b u) (q : After cx kp s r Q) :
    wpAny (model cx.prog cx.w) A (compareOp op a b) Q Er s := by
  cases o <;> cases ho
  case eq =>
    exact pEq_inv e fun d1 d2 z e1 e2 e3 e => (eq_sound B L e3 (rep_of_view (e1 ▸ x)) (rep_of_view (e2 ▸ y))).1 (q.eq e _ _ _ Gr.refl .ofBool)
  case ne =>
    exact pEq_inv e fun d1 d2 z e1 e2 e3 e => (eq_sound B L e3 (rep_of_view (e1 ▸ x)) (rep_of_view (e2 ▸ y))).2 (q.eq e _ _ _ Gr.refl .ofBool)
  case isn => exact is_sound e x y q fun h h' => wpAny_is_plain h h'
  case isnt => exact is_sound e x y q fun h h' => wpAny_isNot_plain h h'
  case inn => exact inn_sound B L e x y q (fun h1 h2 h3 h4 h => (in_sound B L h1 h2 h3 h4).1 h) fun _ => rfl
  case nin => exact inn_sound B L e x y q (fun h1 h2 h3 h4 h => (in_sound B L h1 h2 h3 h4).2 h) nofun
  case lt => exact ints_of (m := compareOp .Lt) e x y (fun i j d t₁ t₂ e q => P.lt_int (q.bool e Gr.refl)) q
  case le => exact ints_of (m := compareOp .LtE) e x y (fun i j d t₁ t₂ e q => P.le_int (q.bool e Gr.refl)) q
  case gt => exact ints_of (m := compareOp .Gt) e x y (fun i j d t₁ t₂ e q => P.gt_int (q.bool e Gr.refl)) q
  case ge => exact ints_of (m := compareOp .GtE) e x y (fun i j d t₁ t₂ e q => P.ge_int (q.bool e Gr.refl)) q
theorem pInt_inv {f : Int → Option D} {t r : T} {G : Prop} (e : pInt f [t] = some r) (k : ∀ i d, asInt t = some i → f i = some d → some (T.frz d) = some r → G) : G :=
  binv (o := asInt t) e fun i e1 e => binv e fun d e2 e => k i d e1 e2 e
theorem neg_sound {a : Value} {t r : T} {Q : Value → Shared → Prop} (e : prim .neg [t] = some r) (x : View cx kp s.heap a t) (q : After cx kp s r Q) :
    wpAny (model cx.prog cx.w) A (unaryOp .USub a) Q Er s :=
  pInt_inv e fun i d e1 e2 e => x.intE e1 fun τ => P.neg_int ((q.eq e).int e2 Gr.refl)
theorem idx_inv {i : Int} {j : Nat} (e : idx i = some j) : 0 ≤ i ∧ i < 2 ^ 63 ∧ i.toNat = j := by
  unfold idx at e
  split at e
  · cases e; lia
  · cases e
theorem dict_map {o : Obj} {kv : List (Str × Value)} {a : Addr} {h : Heap} (d : DictObj cx a o kv) (e : h.get? a = some o) : h.DictOf (strKind cx.prog cx.w) a kv := by
  obtain ⟨_, _, es, ep, x, y, z, p, n⟩ := d
  exact ⟨o, es, ep, e, x, y, z, p, n⟩
theorem item_list {a : Value} {b : Value} {vs : List Value} {n : Nat} {a' : Addr} {i : Int} {v : Value} {value slice : PySem.Expr} {Q : Value → Shared → Prop} {τ : Tok} (hs : ∀ o i, subscripted slice false o i = operate [o, i] (getItem o i)) (ha : a = .ref a') (hb : b = .int i τ)
    (g : s.heap.get? a' = some (lobj vs n)) (h0 : 0 ≤ i) (h1 : i < 2 ^ 63) (e : vs[i.toNat]? = some v) (q : Q v s) : wpAny (model cx.prog cx.w) A (PyProof.Rows.subscriptTail value slice a b) Q Er s := by
  rw [ha, hb]
  have hl : s.heap.IsList a' vs.toArray := ⟨_, g, rfl, n, rfl⟩
  exact PyProof.Rows.tail_any hl.typeIs F.slot_list_getitem.lookup (wpAny_getItem_list hl h0 h1 (by simpa using e) q) (hs _ _)
theorem item_tup {a : Value} {b : Value} {vs : Array Value} {n : Nat} {o : Obj} {a' : Addr} {i : Int} {v : Value} {value slice : PySem.Expr} {Q : Value → Shared → Prop} {τ : Tok} (hs : ∀ o i, subscripted slice false o i = operate [o, i] (getItem o i)) (ha : a = .ref a') (hb : b = .int i τ)
    (g : s.heap.get? a' = some o) (c : o.cls = .type "tuple") (d : o.data = .seq vs n) (h0 : 0 ≤ i) (h1 : i < 2 ^ 63) (e : vs.toList[i.toNat]? = some v) (q : Q v s) : wpAny (model cx.prog cx.w) A (PyProof.Rows.subscriptTail value slice a b) Q Er s := by
  rw [ha, hb]
  have e5 : vs[i.toNat]? = some v := by rw [← Array.getElem?_toList]; exact e
  refine PyProof.Rows.tail_any (T := "tuple") ⟨_, g, c⟩ F.slot_tuple_getitem.lookup (PyProof.Rows.getItem_tuple ⟨_, g, c, n, d⟩ (by lia) h1 ?_ e5 q) (hs _ _)
  unfold seqIndex?
  have : i.toNat < vs.size := (Array.getElem?_eq_some_iff.mp e5).1
  simp only [show ¬ i < 0 by lia, if_false]
  rw [if_pos]
  simp only [Bool.and_eq_true, decide_eq_true_eq]
  lia
theorem item_map {a : Value} {b : Value} {o : Obj} {kv : List (Str × Value)} {a' : Addr} {i : String} {v : Value} {value slice : PySem.Expr} {Q : Value → Shared → Prop} {τ : Tok} (hs : ∀ o i, subscripted slice false o i = operate [o, i] (getItem o i)) (ha : a = .ref a') (hb : b = .str (Str.ofString i) τ)
    (g : s.heap.get? a' = some o) (dd : DictObj cx a' o kv) (e : valueAt kv (Str.ofString i) = some v) (q : Q v { s with toks := s.toks + 1 }) : wpAny (model cx.prog cx.w) A (PyProof.Rows.subscriptTail value slice a b) Q Er s := by
  rw [ha, hb]
  have hm := (dict_map dd g).mapOf
  exact PyProof.Rows.tail_any hm.typeIs F.slot_dict_getitem.lookup (wpAny_getItem_of (strKind_is _ _ _ _) hm e q) (hs _ _)
theorem View.asInt {h : Heap} {v : Value} {t : T} {i : Int} (x : View cx kp h v t) (e : asInt t = some i) : ∃ τ, v = .int i τ := x.intE e fun τ => ⟨τ, rfl⟩
theorem View.asStr {h : Heap} {v : Value} {t : T} {i : String} (x : View cx kp h v t) (e : asStr t = some i) : ∃ τ, v = .str (Str.ofString i) τ := x.strE e fun τ => ⟨τ, rfl⟩
theorem item_sound (L : Led cx kp l s.heap) {a b : Value} {t u r : T} {value slice : PySem.Expr} {Q : Value → Shared → Prop}
    (hs : ∀ o i, subscripted slice false o i = operate [o, i] (getItem o i)) (e : prim .item [t, u] = some r) (x : View cx kp s.heap a t) (y : View cx kp s.heap b u) (q : After cx kp s r Q) :
    wpAny (model cx.prog cx.w) A (PyProof.Rows.subscriptTail value slice a b) Q Er s := by
  cases t with
  | frz d => cases d with
    | list ds =>
      refine binv (o := Mine.Internal.asInt u) e fun i e1 e => binv (o := idx i) e fun j e2 e => binv (o := ds[j]?) e fun d e3 ee => ?_
      obtain ⟨h0, h1, rfl⟩ := idx_inv e2
      obtain ⟨τ, hb⟩ := y.asInt e1
      have x := rep_of_view x
      obtain ⟨a', vs, n, ha, k1, rl⟩ := x
      obtain ⟨v, e4, rv⟩ := RepL.get rl e3
      exact item_list hs ha hb (L.keptSeq k1 rfl) h0 h1 e4 (q.eq ee _ _ _ Gr.refl (view_of_rep rv))
    | tup ds =>
      refine binv (o := Mine.Internal.asInt u) e fun i e1 e => binv (o := idx i) e fun j e2 e => binv (o := ds[j]?) e fun d e3 ee => ?_
      obtain ⟨h0, h1, rfl⟩ := idx_inv e2
      obtain ⟨τ, hb⟩ := y.asInt e1
      have x := rep_of_view x
      obtain ⟨a', o, vs, n, ha, k1, c1, d1, rl⟩ := x
      obtain ⟨v, e4, rv⟩ := RepL.get rl e3
      exact item_tup hs ha hb (L.keptSeq k1 d1) c1 d1 h0 h1 e4 (q.eq ee _ _ _ Gr.refl (view_of_rep rv))
    | dict kvs =>
      refine binv (o := Mine.Internal.asStr u) e fun i e1 e => binv (o := kvs.lookup i) e fun d e3 ee => ?_
      obtain ⟨τ, hb⟩ := y.asStr e1
      have x := rep_of_view x
      obtain ⟨a', o, kv, ha, k1, dd, rl⟩ := x
      obtain ⟨v, e4, rv⟩ := (RepK.get rl).2 _ e3
      exact item_map hs ha hb (L.keptDict k1 dd) dd e4 (q.eq ee _ _ _ Gr.refl (view_of_rep rv))
    | _ => cases e
  | olist ts =>
    refine binv (o := Mine.Internal.asInt u) e fun i e1 e => binv (o := idx i) e fun j e2 ee => ?_
    obtain ⟨h0, h1, rfl⟩ := idx_inv e2
    obtain ⟨τ, hb⟩ := y.asInt e1
    obtain ⟨a', vs, n, ha, k1, rl⟩ := x
    obtain ⟨v, e4, rv⟩ := ViewL.get rl ee
    exact item_list hs ha hb k1 h0 h1 e4 (q _ _ _ Gr.refl rv)
  | oinst c fs => cases e
  | odict kvs =>
    refine binv (o := Mine.Internal.asStr u) e fun i e1 e => ?_
    obtain ⟨τ, hb⟩ := y.asStr e1
    obtain ⟨a', o, kv, ha, k1, dd, rl⟩ := x
    obtain ⟨v, e4, rv⟩ := ViewK.get rl _ e
    exact item_map hs ha hb k1 dd e4 (q _ _ _ Gr.refl rv)
  | oidict kvs =>
    refine binv (o := Mine.Internal.asInt u) e fun i e1 e => binv (o := kvs.lookup i) e fun d e3 ee => ?_
    obtain ⟨τ, hb⟩ := y.asInt e1
    obtain ⟨a', od, f, ha, hk, ⟨es, ep, c1, c2, c3, c4, c5⟩, hf⟩ := x
    obtain ⟨v, e4, rv⟩ := hf.2 _ _ e3
    rw [ha, hb]
    exact PyProof.Rows.tail_any (T := "dict") ⟨_, hk, c1⟩ F.slot_dict_getitem.lookup (wpAny_getItem_intMap (f := f) ⟨od, es, ep, hk, c1, c2, c3, c5⟩ e4 (q.eq ee _ _ _ Gr.refl (view_of_rep rv))) (hs _ _)
theorem lenD_inv {n : Nat} {r : T} {G : Prop} (e : lenD n = some r) (k : n ≤ 1000 → some (T.frz (.int n)) = some r → G) : G := ifv e k
theorem len_list {a : Value} {a' : Addr} {vs : List Value} {n m : Nat} {r : T} {Q : Value → Shared → Prop} (ha : a = .ref a') (g : s.heap.get? a' = some (lobj vs n)) (z : vs.length = m) (e : lenD m = some r) (q : After cx kp s r Q) :
    wpAny (model cx.prog cx.w) A (call (.builtin "len") [a]) Q Er s := by
  refine lenD_inv e fun h0 e => ?_
  rw [ha]
  refine Calls.call_len_list (items := vs.toArray) ⟨_, g, rfl, n, rfl⟩ (by simp; lia) ?_
  rw [List.size_toArray, z]
  exact q.eq e _ _ _ Gr.refl .ofInt
theorem len_sound (L : Led cx kp l s.heap) {a : Value} {t r : T} {Q : Value → Shared → Prop} (e : prim .len [t] = some r) (x : View cx kp s.heap a t) (q : After cx kp s r Q) :
    wpAny (model cx.prog cx.w) A (call (.builtin "len") [a]) Q Er s := by
  cases t with
  | frz d => cases d with
    | list ds =>
      have x := rep_of_view x
      obtain ⟨a', vs, n, ha, k1, rl⟩ := x
      exact len_list ha (L.keptSeq k1 rfl) rl.length e q
    | tup ds =>
      have x := rep_of_view x
      obtain ⟨a', o, vs, n, ha, k1, c1, d1, rl⟩ := x
      have z := rl.length
      rw [Array.length_toList] at z
      refine lenD_inv (n := ds.length) e fun h0 e => ?_
      rw [ha]
      refine PyProof.Rows.len_tuple (items := vs) ⟨_, L.keptSeq k1 d1, c1, n, d1⟩ (by lia) ?_
      rw [z]
      exact q.eq e _ _ _ Gr.refl .ofInt
    | _ => cases e
  | olist ts =>
    obtain ⟨a', vs, n, ha, k1, rl⟩ := x
    exact len_list ha k1 rl.length e q
  | _ => cases e
theorem abs_sound {a : Value} {t r : T} {Q : Value → Shared → Prop} (e : prim .abs [t] = some r) (x : View cx kp s.heap a t) (q : After cx kp s r Q) :
    wpAny (model cx.prog cx.w) A (call (.builtin "abs") [a]) Q Er s := by
  refine pInt_inv e fun i d e1 e2 e => x.intE e1 fun τ => PyProof.Rows.call_abs_int fun u tk => ?_
  rw [show (if i < 0 then -i else i) = (i.natAbs : Int) by split <;> lia]
  exact (q.eq e).int e2 Gr.refl
theorem max_sound (B : Bud k A) {a b : Value} {t u r : T} {Q : Value → Shared → Prop} (e : prim .max [t, u] = some r) (x : View cx kp s.heap a t) (y : View cx kp s.heap b u) (q : After cx kp s r Q) :
    wpAny (model cx.prog cx.w) A (call (.builtin "max") [a, b]) Q Er s := by
  refine pInts_inv e fun i j d e1 e2 e3 e => x.intE e1 fun t₁ => y.intE e2 fun t₂ => max_two_ints B.handled fun h' tk hk => ?_
  cases e3
  refine q.eq e _ _ _ hk ?_
  by_cases c : i < j
  · rw [if_pos c, if_pos c]; exact .ofInt
  · rw [if_neg c, if_neg c]; exact .ofInt
theorem str_sound {a : Value} {t r : T} {Q : Value → Shared → Prop} (e : prim .str [t] = some r) (x : View cx kp s.heap a t) (q : After cx kp s r Q) :
    wpAny (model cx.prog cx.w) A (call (.type "str") [a]) Q Er s := by
  refine pInt_inv e fun i d e1 e2 e => ifv e2 fun h e2 => x.intE e1 fun τ => ?_
  cases e2
  exact PyProof.Rows.str_of_int_fit (N := 1000) (by split <;> lia) (by decide) fun _ => q.eq e _ _ _ Gr.refl .ofStr
theorem isstr_sound {a : Value} {i : String} {Q : Value → Shared → Prop} (x : View cx kp s.heap a (.frz (.str i))) (q : After cx kp s (.frz (.bool true)) Q) :
    wpAny (model cx.prog cx.w) A (call (.builtin "isinstance") [a, .type "str"]) Q Er s := by
  obtain ⟨t₁, rfl⟩ := x.str
  exact IsiPair.str_str (q _ _ _ Gr.refl .ofBool)
theorem get_sound (L : Led cx kp l s.heap) {pos : Pos} {a : Value} {t u r : T} {Q : Value → Shared → Prop} (e : prim .get [t, u] = some r) (x : View cx kp s.heap a t)
    {y : Sem Value} (hy : ∀ {Q : Value → Shared → Prop}, (∀ v h' tk, Gr s.heap h' → View cx kp h' v u → Q v { s with heap := h', toks := tk }) → wpAny (model cx.prog cx.w) A y Q Er s) (q : After cx kp s r Q) :
    (∃ a', a = .ref a' ∧ s.TypeIs (.ref a') "dict" ∧ ∃ o, s.heap.get? a' = some o ∧ o.dict = none) ∧ wpAny (model cx.prog cx.w) A (callWith pos (.builtin "dict.get") [a] [(false, y)] []) Q Er s := by
  refine binv (o := asD t) e fun d e1 e => binv (o := d.dict?) e fun kvs e2 e => binv (o := Mine.Internal.asStr u) e fun i e3 e => ?_
  rw [asD_inv e1, D.dict_inv e2] at x
  have x := rep_of_view x
  obtain ⟨a', o, kv, rfl, k1, dd, rl⟩ := x
  have hm := (dict_map dd (L.keptDict k1 dd)).mapOf
  have ds := dd.1
  obtain ⟨_, _, es, ep, x1, _⟩ := id dd
  refine ⟨⟨a', rfl, hm.typeIs, o, L.keptDict k1 dd, x1.2.1⟩, wpAny_dict_get1 (knd := strKind cx.prog cx.w) ds (hy fun v h' tk g w => ?_)⟩
  obtain ⟨t₂, rfl⟩ := w.asStr e3
  refine ⟨_, _, strKind_is _ _ _ _, (dict_map dd (g _ _ (L.keptDict k1 dd))).mapOf, ?_⟩
  refine q.eq e _ _ _ g (view_of_rep ?_)
  cases z : kvs.lookup i with
  | none => rw [(RepK.get rl).1 z]; exact (rfl : Value.none = .none)
  | some d => obtain ⟨v, e4, rv⟩ := (RepK.get rl).2 _ z; rw [e4]; exact rv
end
end Mine.Internal
end
section
open PySem PySem.W
set_option maxRecDepth 10000
namespace Mine.Internal
structure Sc where
  names : List (Str × NameKind)
  vs : List (Str × Nat)
noncomputable def Readable (env : Env) (X : Lg) (x : Str) (v : Value) : Prop :=
  (∃ oL m j, env.kindOf x = some .local ∧ (env.locals, oL) ∈ X ∧ NsObj oL m j ∧ m x = some v) ∨
  (∃ c oc, (env.kindOf x = some .cell ∨ env.kindOf x = some .free) ∧ env.cells.lookup x = some c ∧ (c, oc) ∈ X ∧ oc.data = .cell (some v))
structure Stk (A : Around) (X : Lg) : Prop where
  ex : ∃ l, A.frames = some l ∧ ∀ e ∈ l, e.scope.kind ≠ .module ∧ ∃ L o, e.frame = some L ∧ (L, o) ∈ X ∧ o.cls = .type "frame" ∧ ∃ es ep, o.data = .dict es ep
theorem Stk.mono {A : Around} {X Y : Lg} (K : Stk A X) (h : ∀ p ∈ X, p ∈ Y) : Stk A Y := by
  obtain ⟨l, e, f⟩ := K.ex
  refine ⟨l, e, fun v hv => ?_⟩
  obtain ⟨a, L, o, b, c, d⟩ := f v hv
  exact ⟨a, L, o, b, h _ c, d⟩
structure EnvOK (A : Around) (env : Env) (sc : Sc) (ρ : Nat → Option Value) (X : Lg) : Prop where
  kind : env.scope.kind = .function
  names : env.scope.names = sc.names
  glob : env.globals = mainGlobals
  blt : env.builtins = builtinsNs
  vars : ∀ x i v, sc.vs.lookup x = some i → ρ i = some v → Readable env X x v
  cells : ∀ x, (sc.names.lookup x = some .cell ∨ sc.names.lookup x = some .free) → (env.cells.lookup x).isSome = true
  live : ∀ x c, env.cells.lookup x = some c → ∃ oc, (c, oc) ∈ X
  apart : ∀ x y c, env.cells.lookup x = some c → env.cells.lookup y = some c → x = y
  stk : Stk A X
noncomputable def biNames : List String := ["len", "abs", "max", "str", "isinstance", "list", "dict", "range"]
noncomputable def biVal (x : String) : Value := if x = "str" ∨ x = "list" ∨ x = "dict" ∨ x = "range" then .type x else .builtin x
noncomputable def clsName : Cls → String
  | .null => "Null"
  | .vector => "Vector"
  | .fit => "Fit"
  | .design => "Design"
  | .terms => "Terms"
noncomputable def globT : List (String × (Int × Int)) := [("NAN", (0, 0)), ("ZERO_rational", (0, 1)), ("ZERO_lsfit", (0, 1)), ("ONE", (1, 1))]
structure NamesOK (cx : Cx) : Prop where
  bi : ∀ x ∈ biNames, nsIn cx.K mainGlobals (Str.ofString x) = some none
  cls : ∀ c, nsIn cx.K mainGlobals (Str.ofString (clsName c)) = some (some (.ref (cx.cA c)))
  isi : ∀ c d, isIn cx.K (.ref (cx.cA c)) (cx.cA d) = decide (c = d)
  glob : ∀ p ∈ globT, ∃ v, nsIn cx.K mainGlobals (Str.ofString p.1) = some (some v) ∧ ∀ kp : KP, (∀ a o, cx.base.get? a = some o → kp a = some o) → Rep cx kp v (.tup [.int p.2.1, .int p.2.2])
structure All (cx : Cx) : Prop where
  ok : CxOK cx
  cls : ClsOK cx
  nam : NamesOK cx
  isN : ∀ (kp : KP) (k : Nat) (A : Around) (Er : Value → Shared → Prop) (s : Shared) (l : Lg), Bud k A → Led cx kp l s.heap → ∀ (v : Value) (c d : Cls) fs, c ≠ d → Rep cx kp v (.inst c fs) → ∀ Q, After cx kp s (.frz (.bool false)) Q → wpAny (model cx.prog cx.w) A (call (.builtin "isinstance") [v, .ref (cx.cA d)]) Q Er s
  isS : ∀ (kp : KP) (k : Nat) (A : Around) (Er : Value → Shared → Prop) (s : Shared) (l : Lg), Bud k A → Led cx kp l s.heap → ∀ (v : Value) (c : Cls) fs, Rep cx kp v (.inst c fs) → ∀ Q, After cx kp s (.frz (.bool false)) Q → wpAny (model cx.prog cx.w) A (call (.builtin "isinstance") [v, .type "str"]) Q Er s
theorem bi_boot : (biNames.all fun x => bootBuiltins (Str.ofString x) == some (biVal x) && (Str.ofString x != "__name__") && (Str.ofString x != "__debug__")) = true := by decide +kernel
section
variable {cx : Cx} {kp : KP} {k : Nat} {A : Around} {Er : Value → Shared → Prop} {s : Shared} {l X : Lg} {env : Env} {sc : Sc} {ρ : Nat → Option Value} {pos : Pos}
theorem env_kind (V : EnvOK A env sc ρ X) {x : Str} : env.kindOf x = sc.names.lookup x := by unfold Env.kindOf; rw [V.names]
theorem name_sound (L : Led cx kp (l ++ X) s.heap) (V : EnvOK A env sc ρ X) {x : Str} {i : Nat} {v : Value} {Q : Value → Shared → Prop} (hd : (x == ("__debug__" : Str)) = false) (hc : (x == ("__classdict__" : Str)) = false)
    (e : sc.vs.lookup x = some i) (r : ρ i = some v) (q : Q v s) : wpAny (model cx.prog cx.w) A (eval (.Name x pos) env) Q Er s := by
  refine wpAny_Name ?_ hd
  rcases V.vars x i v e r with ⟨oL, m, j, h1, h2, ⟨es, ep, d, k1, _, k2⟩, h4⟩ | ⟨c, oc, h1, h2, h3, h4⟩
  · obtain ⟨o', g1, _, g2, _⟩ := L.data (List.mem_append_right _ h2)
    exact wpAny_loadName_local V.kind h1 (m := m) ⟨o', es, ep, g1, g2.trans d, k1, k2⟩ h4 q
  · obtain ⟨o', g1, _, g2, _⟩ := L.data (List.mem_append_right _ h3)
    rcases h1 with h1 | h1
    · exact wpAny_loadName_cell V.kind h1 h2 ⟨o', g1, g2.trans h4⟩ q
    · exact wpAny_loadName_free V.kind h1 h2 ⟨o', g1, g2.trans h4⟩ q hc
theorem glob_sound (H : CxOK cx) (L : Led cx kp l s.heap) (V : EnvOK A env sc ρ X) {x : Str} {v : Value} {Q : Value → Shared → Prop} (hd : (x == ("__debug__" : Str)) = false)
    (hk : sc.names.lookup x = some .globalImplicit) (e : nsIn cx.K mainGlobals x = some (some v)) (q : Q v s) : wpAny (model cx.prog cx.w) A (eval (.Name x pos) env) Q Er s :=
  Calls.Name_function_global V.kind ((env_kind V).trans hk) (Calls.loadGlobal_global (mg := cx.mg) (by rw [V.glob]; exact H.top.g.keeps L.sub) (mg_of H.inK H.top.g e) q) hd
theorem bi_sound (H : All cx) (L : Led cx kp l s.heap) (V : EnvOK A env sc ρ X) {x : String} {Q : Value → Shared → Prop} (hx : x ∈ biNames)
    (hk : sc.names.lookup (Str.ofString x) = some .globalImplicit) (q : Q (biVal x) s) : wpAny (model cx.prog cx.w) A (eval (.Name (Str.ofString x) pos) env) Q Er s := by
  have b := List.all_eq_true.mp bi_boot x hx
  simp only [Bool.and_eq_true] at b
  refine Calls.Name_function_global V.kind ((env_kind V).trans hk) (Calls.loadGlobal_builtin (mg := cx.mg) (mb := cx.mb) (by rw [V.glob]; exact H.ok.top.g.keeps L.sub) (mg_none_of H.ok.inK H.ok.top.g (H.nam.bi x hx)) (by rw [V.blt]; exact H.ok.top.b.keeps L.sub) ?_ q) ?_
  · rw [H.ok.top.builtins _ (bne_iff_ne.mp b.1.2)]; exact beq_iff_eq.mp b.1.1
  · exact beq_eq_false_iff_ne.mpr (bne_iff_ne.mp b.2)
end
noncomputable def noStar (a : PySem.Expr) : Bool := !Nat.beq a.ctorIdx 22
theorem starEach_cons {a : PySem.Expr} {r : List PySem.Expr} {env : Env} (h : noStar a = true) : starEach (a :: r) env = (false, eval a env) :: starEach r env := by
  cases a <;> first | rfl | cases h
noncomputable def nil? {α : Type} : List α → Bool
  | [] => true
  | _ :: _ => false
theorem nil_inv {α : Type} {l : List α} (h : nil? l = true) : l = [] := by cases l; rfl; cases h
@[irreducible] noncomputable def tst {α : Type} {p : α → Prop} (o : Option {q : α // p q}) (f : α → Bool) : Bool := o.any fun q => f q.1
noncomputable def two {α : Type} : List α → Option (α × α)
  | [a, b] => some (a, b)
  | _ => none
theorem xE {α β : Type} {g : α → β} {a : β} {o : Option {q : α // a = g q}} {f : α → Bool} {P : β → Prop} (h : tst o f = true) (k : ∀ q, f q = true → P (g q)) : P a := by
  unfold tst at h
  cases o with
  | none => cases h
  | some q => obtain ⟨q, rfl⟩ := q; exact k q h
noncomputable def xName (a : PySem.Expr) : Option {q : Str × Pos // a = .Name q.1 q.2} := if h : a.ctorIdx = 23 then PySem.Expr.Name.elim a h fun x p => some ⟨(x, p), rfl⟩ else none
noncomputable def xConst (a : PySem.Expr) : Option {q : Const × Nat × Pos // a = .Constant q.1 q.2.1 q.2.2} := if h : a.ctorIdx = 19 then PySem.Expr.Constant.elim a h fun c n p => some ⟨(c, n, p), rfl⟩ else none
noncomputable def xBin (a : PySem.Expr) : Option {q : PySem.Expr × Operator × PySem.Expr × Pos // a = .BinOp q.1 q.2.1 q.2.2.1 q.2.2.2} := if h : a.ctorIdx = 2 then PySem.Expr.BinOp.elim a h fun l o r p => some ⟨(l, o, r, p), rfl⟩ else none
noncomputable def xCmp (a : PySem.Expr) : Option {q : PySem.Expr × CmpOp × PySem.Expr × Pos // a = .Compare q.1 [q.2.1] [q.2.2.1] q.2.2.2} := if h : a.ctorIdx = 15 then PySem.Expr.Compare.elim a h fun l z1 z2 p => (match z1, z2 with
    | [o], [r] => some ⟨(l, o, r, p), rfl⟩
    | _, _ => none) else none
noncomputable def xUn (a : PySem.Expr) : Option {q : UnaryOp × PySem.Expr × Pos // a = .UnaryOp q.1 q.2.1 q.2.2} := if h : a.ctorIdx = 3 then PySem.Expr.UnaryOp.elim a h fun o x p => some ⟨(o, x, p), rfl⟩ else none
noncomputable def xAttr (a : PySem.Expr) : Option {q : PySem.Expr × Str × Pos // a = .Attribute q.1 q.2.1 q.2.2} := if h : a.ctorIdx = 20 then PySem.Expr.Attribute.elim a h fun v m p => some ⟨(v, m, p), rfl⟩ else none
noncomputable def xSub (a : PySem.Expr) : Option {q : PySem.Expr × PySem.Expr × Pos // a = .Subscript q.1 q.2.1 q.2.2} := if h : a.ctorIdx = 21 then PySem.Expr.Subscript.elim a h fun v i p => some ⟨(v, i, p), rfl⟩ else none
noncomputable def xCall (a : PySem.Expr) : Option {q : PySem.Expr × List PySem.Expr × Pos // a = .Call q.1 q.2.1 [] q.2.2} := if h : a.ctorIdx = 16 then PySem.Expr.Call.elim a h fun f as z2 p => (match z2 with
    | [] => some ⟨(f, as, p), rfl⟩
    | _ => none) else none
noncomputable def xCall1 (a : PySem.Expr) : Option {q : PySem.Expr × PySem.Expr × Pos // a = .Call q.1 [q.2.1] [] q.2.2} := if h : a.ctorIdx = 16 then PySem.Expr.Call.elim a h fun f z1 z2 p => (match z1, z2 with
    | [x], [] => some ⟨(f, x, p), rfl⟩
    | _, _ => none) else none
noncomputable def xCall2 (a : PySem.Expr) : Option {q : PySem.Expr × PySem.Expr × PySem.Expr × Pos // a = .Call q.1 [q.2.1, q.2.2.1] [] q.2.2.2} := if h : a.ctorIdx = 16 then PySem.Expr.Call.elim a h fun f z1 z2 p => (match z1, z2 with
    | [x, y], [] => some ⟨(f, x, y, p), rfl⟩
    | _, _ => none) else none
section
variable {P : PySem.Expr → Prop} {a : PySem.Expr}
@[elab_as_elim] theorem nameE {f : Str × Pos → Bool} (h : tst (xName a) f = true) (k : ∀ x p, f (x, p) = true → P (.Name x p)) : P a := xE (P := P) h fun q h => k q.1 q.2 h
@[elab_as_elim] theorem constE {f : Const × Nat × Pos → Bool} (h : tst (xConst a) f = true) (k : ∀ c n p, f (c, n, p) = true → P (.Constant c n p)) : P a := xE (P := P) h fun q h => k q.1 q.2.1 q.2.2 h
@[elab_as_elim] theorem binE {f : PySem.Expr × Operator × PySem.Expr × Pos → Bool} (h : tst (xBin a) f = true) (k : ∀ l o r p, f (l, o, r, p) = true → P (.BinOp l o r p)) : P a := xE (P := P) h fun q h => k q.1 q.2.1 q.2.2.1 q.2.2.2 h
@[elab_as_elim] theorem cmpE {f : PySem.Expr × CmpOp × PySem.Expr × Pos → Bool} (h : tst (xCmp a) f = true) (k : ∀ l o r p, f (l, o, r, p) = true → P (.Compare l [o] [r] p)) : P a := xE (P := P) h fun q h => k q.1 q.2.1 q.2.2.1 q.2.2.2 h
@[elab_as_elim] theorem unE {f : UnaryOp × PySem.Expr × Pos → Bool} (h : tst (xUn a) f = true) (k : ∀ o x p, f (o, x, p) = true → P (.UnaryOp o x p)) : P a := xE (P := P) h fun q h => k q.1 q.2.1 q.2.2 h
@[elab_as_elim] theorem attrE {f : PySem.Expr × Str × Pos → Bool} (h : tst (xAttr a) f = true) (k : ∀ v m p, f (v, m, p) = true → P (.Attribute v m p)) : P a := xE (P := P) h fun q h => k q.1 q.2.1 q.2.2 h
@[elab_as_elim] theorem subE {f : PySem.Expr × PySem.Expr × Pos → Bool} (h : tst (xSub a) f = true) (k : ∀ v i p, f (v, i, p) = true → P (.Subscript v i p)) : P a := xE (P := P) h fun q h => k q.1 q.2.1 q.2.2 h
@[elab_as_elim] theorem callE {f : PySem.Expr × List PySem.Expr × Pos → Bool} (h : tst (xCall a) f = true) (k : ∀ c as p, f (c, as, p) = true → P (.Call c as [] p)) : P a := xE (P := P) h fun q h => k q.1 q.2.1 q.2.2 h
@[elab_as_elim] theorem call1E {f : PySem.Expr × PySem.Expr × Pos → Bool} (h : tst (xCall1 a) f = true) (k : ∀ c x p, f (c, x, p) = true → P (.Call c [x] [] p)) : P a := xE (P := P) h fun q h => k q.1 q.2.1 q.2.2 h
@[elab_as_elim] theorem call2E {f : PySem.Expr × PySem.Expr × PySem.Expr × Pos → Bool} (h : tst (xCall2 a) f = true) (k : ∀ c x y p, f (c, x, y, p) = true → P (.Call c [x, y] [] p)) : P a := xE (P := P) h fun q h => k q.1 q.2.1 q.2.2.1 q.2.2.2 h
end
noncomputable def noSuper : PySem.Expr → Bool
  | .Call f as ks _ => !((xName f).isSome && (nil? as && nil? ks))
  | _ => true
theorem attrBase_plain {o : PySem.Expr} {n : Str} {env : Env} {t : Sem Value} (h : noSuper o = true) : attributeBase o n env t = t := by
  cases o with
  | Call f as ks p => cases f with
    | Name x q => cases as with
      | nil => cases ks with
        | nil => cases h
        | cons => rfl
      | cons => rfl
    | _ => rfl
  | _ => rfl
noncomputable def notSlice (a : PySem.Expr) : Bool := !Nat.beq a.ctorIdx 26
noncomputable def notSet (a : PySem.Expr) : Bool := !Nat.beq a.ctorIdx 7
theorem notSet_marks {op : CmpOp} {e : PySem.Expr} (h : notSet e = true) : behindInMarks op e = false := by
  cases e <;> first | rfl | cases h
noncomputable def badName (x : Str) : Bool := x == ("__debug__" : Str) || x == ("__classdict__" : Str)
theorem badName_of {x : Str} (h : badName x = false) : (x == ("__debug__" : Str)) = false ∧ (x == ("__classdict__" : Str)) = false := Bool.or_eq_false_iff.mp h
theorem not_of {b : Bool} (h : (!b) = true) : b = false := by cases b; rfl; cases h
theorem mem_of {x : String} {l : List String} (h : l.contains x = true) : x ∈ l := List.contains_iff_mem.mp h
noncomputable def isVar (sc : Sc) (i : Nat) (x : Str) : Bool := sc.vs.lookup x == some i && !badName x
noncomputable def isBi (sc : Sc) (f : PySem.Expr) (x : String) : Bool := tst (xName f) fun q => q.1 == Str.ofString x && sc.names.lookup q.1 == some .globalImplicit && biNames.contains x
noncomputable def isCls (sc : Sc) (f : PySem.Expr) (c : Cls) : Bool := tst (xName f) fun q => q.1 == Str.ofString (clsName c) && sc.names.lookup q.1 == some .globalImplicit && !badName q.1
@[elab_as_elim] theorem biE {P : PySem.Expr → Prop} {sc : Sc} {f : PySem.Expr} {x : String} (h : isBi sc f x = true) (k : ∀ p, sc.names.lookup (Str.ofString x) = some .globalImplicit → x ∈ biNames → P (.Name (Str.ofString x) p)) : P f :=
  nameE h fun y p h => by cases eq_of_beq (and1 (and1 h)); exact k p (eq_of_beq (and2 (and1 h))) (mem_of (and2 h))
@[elab_as_elim] theorem clsE {P : PySem.Expr → Prop} {sc : Sc} {f : PySem.Expr} {c : Cls} (h : isCls sc f c = true) (k : ∀ p, sc.names.lookup (Str.ofString (clsName c)) = some .globalImplicit → badName (Str.ofString (clsName c)) = false → P (.Name (Str.ofString (clsName c)) p)) : P f :=
  nameE h fun y p h => by cases eq_of_beq (and1 (and1 h)); exact k p (eq_of_beq (and2 (and1 h))) (not_of (and2 h))
noncomputable def kids (sc : Sc) (o : Prim) (a : PySem.Expr) : (List PySem.Expr → Bool) → Bool := fun k => match o with
  | .neg => tst (xUn a) fun q => (q.1 == .USub) && k [q.2.1]
  | .attr n => tst (xAttr a) fun q => q.2.1 == Str.ofString n && attrNames.contains n && noSuper q.1 && k [q.1]
  | .item => tst (xSub a) fun q => notSlice q.2.1 && k [q.1, q.2.1]
  | .len => tst (xCall1 a) fun q => isBi sc q.1 "len" && noStar q.2.1 && k [q.2.1]
  | .abs => tst (xCall1 a) fun q => isBi sc q.1 "abs" && noStar q.2.1 && k [q.2.1]
  | .str => tst (xCall1 a) fun q => isBi sc q.1 "str" && noStar q.2.1 && k [q.2.1]
  | .max => tst (xCall2 a) fun q => isBi sc q.1 "max" && noStar q.2.1 && noStar q.2.2.1 && k [q.2.1, q.2.2.1]
  | .isi c => tst (xCall2 a) fun q => isBi sc q.1 "isinstance" && noStar q.2.1 && isCls sc q.2.2.1 c && k [q.2.1]
  | .isstr => tst (xCall2 a) fun q => isBi sc q.1 "isinstance" && noStar q.2.1 && isBi sc q.2.2.1 "str" && k [q.2.1]
  | .get => tst (xCall1 a) fun q => tst (xAttr q.1) fun r => r.2.1 == ("get" : Str) && noSuper r.1 && noStar q.2.1 && r.2.2.endLine == q.2.2.line && k [r.1, q.2.1]
  | .index => tst (xCall1 a) fun q => tst (xAttr q.1) fun r => r.2.1 == ("index" : Str) && noSuper r.1 && noStar q.2.1 && r.2.2.endLine == q.2.2.line && k [r.1, q.2.1]
  | o => match binOf o with
    | some op => tst (xBin a) fun q => (q.2.1 == op) && k [q.1, q.2.2.1]
    | none => match cmpOf o with
      | some op => tst (xCmp a) fun q => (q.2.1 == op) && notSet q.2.2.1 && k [q.1, q.2.2.1]
      | none => false
noncomputable def cstB (d : D) (c : Const) : Bool := match d with
  | .none => (match c with | .none => true | _ => false)
  | .bool b => (match c with | .bool c => b == c | _ => false)
  | .int b => (match c with | .int c => b == c | _ => false)
  | .str b => (match c with | .str c => c == Str.ofString b | _ => false)
  | _ => false
noncomputable def isPair (d : D) (x y : Int) : Bool := match d with
  | .tup l => (two l).any fun q => q.1.int? == some x && q.2.int? == some y
  | _ => false
mutual
noncomputable def chkP (sc : Sc) : P → PySem.Expr → Bool
  | .cst d, a => tst (xConst a) fun q => cstB d q.1
  | .var i, a => tst (xName a) fun q => isVar sc i q.1
  | .glob d, a => tst (xName a) fun q => sc.names.lookup q.1 == some .globalImplicit && !badName q.1 && globT.any fun p => q.1 == Str.ofString p.1 && isPair d p.2.1 p.2.2
  | .op o ps, a => kids sc o a (chkPs sc ps)
noncomputable def chkPs (sc : Sc) : List P → List PySem.Expr → Bool
  | [], as => nil? as
  | p :: ps, as => match as with
    | [] => false
    | a :: as => chkP sc p a && chkPs sc ps as
end
end Mine.Internal
end
section
open PySem PySem.W
set_option maxRecDepth 10000
namespace Mine.Internal
section
variable {cx : Cx} {n : Nat} {kp : KP} {k : Nat} {A : Around} {Er : Value → Shared → Prop} {s : Shared} {l X : Lg} {env : Env} {sc : Sc} {ρ : Nat → Option Value} {σ : Sg} {ob : Ob} {pos : Pos}
theorem Ste.view (x : Ste cx n kp ρ σ ob X s.heap) {i : Nat} {t : T} (e : gv σ i = some t) : ∃ v, ρ i = some v ∧ View cx kp s.heap v t := by
  obtain ⟨v, e1, e2⟩ := x.vars i t e
  refine ⟨v, e1, Own.view e2 fun p hp => ?_⟩
  have hi : i < n := x.len ▸ gv_lt e
  refine x.led.get (List.mem_append_left _ ?_) (Own.noFrame e2 p hp)
  exact (fl_split hi).mem_iff.mpr (List.mem_append_left _ hp)
theorem call1_bi (H : All cx) (L : Led cx kp l s.heap) (V : EnvOK A env sc ρ X) {f x : PySem.Expr} {nm : String} {Q : Value → Shared → Prop} (hf : isBi sc f nm = true) (hx : noStar x = true)
    (h : wpAny (model cx.prog cx.w) A (eval x env) (fun v s₁ => wpAny (model cx.prog cx.w) A (call (biVal nm) [v]) Q Er s₁) Er s) :
    wpAny (model cx.prog cx.w) A (eval (.Call f [x] [] pos) env) Q Er s := by
  refine biE hf fun fp h2 h3 => ?_
  · refine wpAny_Call_NameR (bi_sound H L V h3 h2 ?_)
    rw [starEach_cons hx]
    have core : ∀ {f : Value}, (∀ {pos : Pos} {args : List (Bool × Sem Value)} {Q : Value → Shared → Prop}, args.any (·.1) = false → wpAny (model cx.prog cx.w) A (evalArgs f true args []) (fun a s₁ => wpAny (model cx.prog cx.w) A (call f ([] ++ a.pos) a.kw) Q Er s₁) Er s → wpAny (model cx.prog cx.w) A (callWith pos f [] args []) Q Er s) →
        wpAny (model cx.prog cx.w) A (eval x env) (fun v s₁ => wpAny (model cx.prog cx.w) A (call f [v]) Q Er s₁) Er s → wpAny (model cx.prog cx.w) A (callWith pos f [] (backTo pos ((false, eval x env) :: starEach [] env)) []) Q Er s := by
      intro f hf h
      refine hf rfl (Calls.evalArgs_plain (Calls.spliced_cons (wpAny_mono h (fun v s₁ h₁ => Calls.spliced_nil h₁) fun _ _ x => x)))
    unfold biVal at h ⊢
    split
    · rename_i c; rw [if_pos c] at h; exact core (fun a b => callWith_type a b) h
    · rename_i c; rw [if_neg c] at h; exact core (fun a b => Calls.callWith_builtin a b) h
theorem call2_bi (H : All cx) (L : Led cx kp l s.heap) (V : EnvOK A env sc ρ X) {f x y : PySem.Expr} {nm : String} {Q : Value → Shared → Prop} (hf : isBi sc f nm = true) (hx : noStar x = true) (hy : noStar y = true)
    (h : wpAny (model cx.prog cx.w) A (eval x env) (fun v s₁ => wpAny (model cx.prog cx.w) A (eval y env) (fun w s₂ => wpAny (model cx.prog cx.w) A (call (biVal nm) [v, w]) Q Er s₂) Er s₁) Er s) :
    wpAny (model cx.prog cx.w) A (eval (.Call f [x, y] [] pos) env) Q Er s := by
  refine biE hf fun fp h2 h3 => ?_
  · refine wpAny_Call_NameR (bi_sound H L V h3 h2 ?_)
    rw [starEach_cons hx, starEach_cons hy]
    have core : ∀ {f : Value}, (∀ {pos : Pos} {args : List (Bool × Sem Value)} {Q : Value → Shared → Prop}, args.any (·.1) = false → wpAny (model cx.prog cx.w) A (evalArgs f true args []) (fun a s₁ => wpAny (model cx.prog cx.w) A (call f ([] ++ a.pos) a.kw) Q Er s₁) Er s → wpAny (model cx.prog cx.w) A (callWith pos f [] args []) Q Er s) →
        wpAny (model cx.prog cx.w) A (eval x env) (fun v s₁ => wpAny (model cx.prog cx.w) A (eval y env) (fun w s₂ => wpAny (model cx.prog cx.w) A (call f [v, w]) Q Er s₂) Er s₁) Er s → wpAny (model cx.prog cx.w) A (callWith pos f [] (backTo pos ((false, eval x env) :: (false, eval y env) :: starEach [] env)) []) Q Er s := by
      intro f hf h
      refine hf rfl (Calls.evalArgs_plain (Calls.spliced_cons (wpAny_mono h (fun v s₁ h₁ => Calls.spliced_cons (wpAny_mono h₁ (fun w s₂ h₂ => Calls.spliced_nil h₂) fun _ _ x => x)) fun _ _ x => x)))
    unfold biVal at h ⊢
    split
    · rename_i c; rw [if_pos c] at h; exact core (fun a b => callWith_type a b) h
    · rename_i c; rw [if_neg c] at h; exact core (fun a b => Calls.callWith_builtin a b) h
theorem meth1 {v x : PySem.Expr} {m : Str} {apos : Pos} {Q : Value → Shared → Prop} (hb : noSuper v = true) (hx : noStar x = true) (hl : (apos.endLine == pos.line) = true)
    (h : wpAny (model cx.prog cx.w) A (eval v env) (fun ov s₁ => MethodOn cx.prog cx.w A m pos ov [(false, eval x env)] Q Er s₁) Er s) :
    wpAny (model cx.prog cx.w) A (eval (.Call (.Attribute v m apos) [x] [] pos) env) Q Er s := by
  refine wpAny_Call_method_late (trees := [(false, eval x env)]) (attrBase_plain hb) ?_ hl ?_ h
  · rw [starEach_cons hx]; rfl
  · rw [starEach_cons hx]; rfl
theorem attr_ast {v : PySem.Expr} {m : Str} {Q : Value → Shared → Prop} (hb : noSuper v = true)
    (h : wpAny (model cx.prog cx.w) A (eval v env) (fun o s₁ => wpAny (model cx.prog cx.w) A (getAttr o m true) Q Er s₁) Er s) : wpAny (model cx.prog cx.w) A (eval (.Attribute v m pos) env) Q Er s := by
  refine PyProof.Rows.Attribute_any_ h ?_
  show (do
    let o ← attributeBase v m env (eval v env)
    standAt pos.atName
    let r ← holding [o] (getAttr o m true)
    letTemporaryGo v o r
    pure r) = _
  rw [attrBase_plain hb]
end
end Mine.Internal
end
section
open PySem PySem.W
set_option maxRecDepth 10000
namespace Mine.Internal
section
variable {cx : Cx} {n : Nat} {kp : KP} {k : Nat} {A : Around} {Er : Value → Shared → Prop} {s : Shared} {l X : Lg} {env : Env} {sc : Sc} {ρ : Nat → Option Value} {σ : Sg} {ob : Ob} {pos : Pos}
theorem index_sound (L : Led cx kp l s.heap) {a : Value} {t u r : T} {Q : Value → Shared → Prop} (e : prim .index [t, u] = some r) (x : View cx kp s.heap a t)
    {y : Sem Value} (hy : ∀ {Q : Value → Shared → Prop}, (∀ v h' tk, Gr s.heap h' → View cx kp h' v u → Q v { s with heap := h', toks := tk }) → wpAny (model cx.prog cx.w) A y Q Er s) (q : After cx kp s r Q) :
    (∃ a', a = .ref a' ∧ s.TypeIs (.ref a') "list" ∧ ∃ o, s.heap.get? a' = some o ∧ o.dict = none) ∧ wpAny (model cx.prog cx.w) A (callWith pos (.builtin "list.index") [a] [(false, y)] []) Q Er s := by
  refine binv (o := asD t) e fun d0 d1 e => binv (o := d0.list?) e fun ls d2 e => binv (o := Mine.Internal.asStr u) e fun i d3 e => ifv e fun hlen e => binv (o := strList ls) e fun ss e0 e => binv (o := sIndex i ss) e fun j e1 ee => ?_
  rw [asD_inv d1, D.list_inv d2] at x
  · ·
      have x := rep_of_view x
      obtain ⟨a', vs, nn, rfl, k1, rl⟩ := x
      refine ⟨⟨a', rfl, ⟨_, L.keptSeq k1 rfl, rfl⟩, _, L.keptSeq k1 rfl, rfl⟩, P.index_list (hy fun v h' tk g w => ?_)⟩
      obtain ⟨t₂, rfl⟩ := w.asStr d3
      have key : ∀ {ls : List D} {vs : List Value} {ss : List String}, RepL cx kp vs ls → strList ls = some ss →
          vs.length = ss.length ∧ ∀ m (hm : m < vs.length) (hs : m < ss.length), ∃ t, vs[m] = .str (Str.ofString ss[m]) t := by
        intro ls
        induction ls with
        | nil => intro vs ss r e; cases e; subst r; exact ⟨rfl, fun m hm => absurd hm (Nat.not_lt_zero _)⟩
        | cons d ls ih =>
          intro vs ss r e
          obtain ⟨v, q, rfl, r1, r2⟩ := r
          refine binv (o := d.str?) e fun s0 e0 e => binv (o := strList ls) e fun ss' e' ee => ?_
          cases ee
          rw [D.str_inv e0] at r1
          obtain ⟨t, rfl⟩ := r1
          obtain ⟨h1, h2⟩ := ih r2 e'
          refine ⟨by simp [h1], fun m hm hs => ?_⟩
          cases m with
          | zero => exact ⟨t, rfl⟩
          | succ m => simpa using h2 m (by simpa using hm) (by simpa using hs)
      have fnd : ∀ {ss : List String} {j : Nat}, sIndex i ss = some j → ∃ hj : j < ss.length, ss[j] = i ∧ ∀ m (hm : m < ss.length), m < j → ss[m] ≠ i := by
        intro ss
        induction ss with
        | nil => intro j e; cases e
        | cons y ss ih =>
          intro j e
          simp only [sIndex] at e
          split at e
          · rename_i c; cases e; exact ⟨by simp, c, fun m _ h => absurd h (Nat.not_lt_zero _)⟩
          · rename_i c
            obtain ⟨j', e', rfl⟩ := Option.map_eq_some_iff.mp e
            obtain ⟨hj, h1, h2⟩ := ih e'
            refine ⟨by simp; omega, by simpa using h1, fun m hm h => ?_⟩
            cases m with
            | zero => exact c
            | succ m => simpa using h2 m (by simpa using hm) (by omega)
      obtain ⟨z1, z2⟩ := key rl e0
      obtain ⟨hj, y1, y2⟩ := fnd e1
      have hlen2 : vs.length ≤ 1000 := by rw [rl.length]; exact hlen
      refine ⟨vs.toArray, nn, fun v => match v with | .str y _ => y.cps.toList == (Str.ofString i).cps.toList | _ => false, j, by simp; omega, g _ _ (L.keptSeq k1 rfl), ?_, by omega, ?_, ?_, q.eq ee _ _ _ g .ofInt⟩
      · intro y hy
        obtain ⟨m, hm, rfl⟩ := Array.mem_iff_getElem.mp hy
        have hm' : m < vs.length := by simpa using hm
        obtain ⟨t, e⟩ := z2 m hm' (by omega)
        have e' : vs.toArray[m] = .str (Str.ofString ss[m]) t := by simpa using e
        rw [e']
        exact SeqRoads2.EqGives.str _ _ _ _
      · obtain ⟨t, e⟩ := z2 j (by omega) hj
        have e' : vs.toArray[j]'(by simp; omega) = .str (Str.ofString ss[j]) t := by simpa using e
        rw [e', y1]
        simp
      · intro m hm hlt
        have hm' : m < vs.length := by simpa using hm
        obtain ⟨t, e⟩ := z2 m hm' (by omega)
        have e' : vs.toArray[m] = .str (Str.ofString ss[m]) t := by simpa using e
        rw [e']
        have ne := y2 m (by omega) hlt
        refine beq_eq_false_iff_ne.mpr fun c => ne (ofString_inj ?_)
        have : ∀ a b : Str, a.cps.toList = b.cps.toList → a = b := fun a b h => by cases a; cases b; simp_all
        exact this _ _ c
end
end Mine.Internal
end
section
open PySem PySem.W
set_option maxRecDepth 10000
namespace Mine.Internal
section
variable {cx : Cx} {n : Nat} {kp : KP} {k : Nat} {A : Around} {X : Lg} {env : Env} {sc : Sc} {ρ : Nat → Option Value} {σ : Sg} {ob : Ob}
abbrev PvS (cx : Cx) (n : Nat) (kp : KP) (A : Around) (env : Env) (ρ : Nat → Option Value) (σ : Sg) (ob : Ob) (X : Lg) (x : PySem.Expr) (t : T) : Prop :=
  ∀ (s : Shared) (Er : Value → Shared → Prop) (Q : Value → Shared → Prop), Ste cx n kp ρ σ ob X s.heap → After cx kp s t Q → wpAny (model cx.prog cx.w) A (eval x env) Q Er s
noncomputable def Rule1 (cx : Cx) (A : Around) (env : Env) (x a : PySem.Expr) (t r : T) : Prop := ∀ {kp0 : KP} {l0 : Lg} {s : Shared} {Er Q : Value → Shared → Prop}, Led cx kp0 l0 s.heap →
  wpAny (model cx.prog cx.w) A (eval x env) (fun v s₁ => ∃ kp l, Led cx kp l s₁.heap ∧ View cx kp s₁.heap v t ∧ After cx kp s₁ r Q) Er s → wpAny (model cx.prog cx.w) A (eval a env) Q Er s
noncomputable def Rule2 (cx : Cx) (A : Around) (env : Env) (x y a : PySem.Expr) (t u r : T) : Prop := ∀ {kp0 : KP} {l0 : Lg} {s : Shared} {Er Q : Value → Shared → Prop}, Led cx kp0 l0 s.heap →
  wpAny (model cx.prog cx.w) A (eval x env) (fun v s₁ => wpAny (model cx.prog cx.w) A (eval y env) (fun w s₂ => ∃ kp l, Led cx kp l s₂.heap ∧ View cx kp s₂.heap v t ∧ View cx kp s₂.heap w u ∧ After cx kp s₂ r Q) Er s₁) Er s → wpAny (model cx.prog cx.w) A (eval a env) Q Er s
theorem PvS.one {x : PySem.Expr} {t r : T} {a : PySem.Expr} (hx : PvS cx n kp A env ρ σ ob X x t) (R : Rule1 cx A env x a t r) : PvS cx n kp A env ρ σ ob X a r :=
  fun s Er Q St q => R St.led (hx s Er _ St fun v h' tk g w => ⟨kp, _, (St.grow g).led, w, fun v3 h3 tk3 g3 w3 => q _ _ _ (g.trans g3) w3⟩)
theorem PvS.two {x y : PySem.Expr} {t u r : T} {a : PySem.Expr} (hx : PvS cx n kp A env ρ σ ob X x t) (hy : PvS cx n kp A env ρ σ ob X y u) (R : Rule2 cx A env x y a t u r) : PvS cx n kp A env ρ σ ob X a r :=
  fun s Er Q St q => R St.led (hx s Er _ St fun v h' tk g w => hy _ Er _ (St.grow g) fun v2 h2 tk2 g2 w2 => ⟨kp, _, (St.grow (g.trans g2)).led, w.grow g2, w2, fun v3 h3 tk3 g3 w3 => q _ _ _ (g.trans (g2.trans g3)) w3⟩)
theorem mono1 {s : Shared} {m : Sem Value} {Er : Value → Shared → Prop} {Q R : Value → Shared → Prop} (h : wpAny (model cx.prog cx.w) A m R Er s) (k : ∀ v s₁, R v s₁ → Q v s₁) : wpAny (model cx.prog cx.w) A m Q Er s := wpAny_mono h k fun _ _ x => x
theorem op1 (H : All cx) (B : Bud k A) (V : EnvOK A env sc ρ X) {o : Prim} {a : PySem.Expr} {f : List PySem.Expr → Bool} {t r : T} (hk : kids sc o a f = true) (e : prim o [t] = some r) : ∃ x, f [x] = true ∧ Rule1 cx A env x a t r := by
  cases o with
  | neg =>
    refine unE hk fun op x p h => ?_
    cases eq_of_beq (and1 h)
    exact ⟨x, and2 h, fun _ hx => wpAny_UnaryOp (mono1 hx fun v s₁ ⟨_, _, _, w, q⟩ => neg_sound e w q)⟩
  | attr m =>
    refine attrE hk fun v x p h => ?_
    cases eq_of_beq (and1 (and1 (and1 h)))
    exact ⟨v, and2 h, fun _ hx => attr_ast (and2 (and1 h)) (mono1 hx fun v s₁ ⟨_, _, L, w, q⟩ => attr_sound H.ok H.cls L (mem_of (and2 (and1 (and1 h)))) e w q)⟩
  | len =>
    refine call1E hk fun c x p h => ?_
    exact ⟨x, and2 h, fun L hx => call1_bi H L V (and1 (and1 h)) (and2 (and1 h)) (mono1 hx fun v s₁ ⟨_, _, L, w, q⟩ => len_sound L e w q)⟩
  | abs =>
    refine call1E hk fun c x p h => ?_
    exact ⟨x, and2 h, fun L hx => call1_bi H L V (and1 (and1 h)) (and2 (and1 h)) (mono1 hx fun v s₁ ⟨_, _, _, w, q⟩ => abs_sound e w q)⟩
  | str =>
    refine call1E hk fun c x p h => ?_
    exact ⟨x, and2 h, fun L hx => call1_bi H L V (and1 (and1 h)) (and2 (and1 h)) (mono1 hx fun v s₁ ⟨_, _, _, w, q⟩ => str_sound e w q)⟩
  | isi c =>
    refine call2E hk fun g x y p h => ⟨x, and2 h, fun L hx => ?_⟩
    refine clsE (f := y) (and2 (and1 h)) fun cp c1 c2 => ?_
    refine call2_bi H L V (and1 (and1 (and1 h))) (and2 (and1 (and1 h))) rfl (mono1 hx fun v s₁ ⟨kp, l, L, w, q⟩ => ?_)
    refine glob_sound H.ok L V (badName_of c2).1 c1 (H.nam.cls _) ?_
    refine binv (o := asD t) e fun d e1 e => binv (o := d.inst?) e fun ⟨c', fs⟩ e2 e => ?_
    rw [asD_inv e1, D.inst_inv e2] at w
    by_cases hcc : c' = c
    · subst hcc
      obtain ⟨a', dd, od, m, j, rfl, k1, k2, _, ns, rf⟩ := rep_of_view w
      refine isi_call (C := cx.cA c') (t := .ref (cx.cA c')) (H.ok.inK.keeps L.sub) (fun M => ?_) (by rw [H.nam.isi]; simp) (by intro z; cases z) ?_
      · exact (Looks.ld (L.keptInst k1)).andThen .now
      · simp only [decide_true] at e
        exact q.eq e _ _ _ Gr.refl .ofBool
    · refine H.isN kp k A _ _ _ B L v c' c fs hcc (rep_of_view w) _ fun v3 h3 tk3 g3 w3 => q.eq e _ _ _ g3 ?_
      rw [decide_eq_false (Ne.symm hcc)]; exact w3
  | isstr =>
    refine call2E hk fun g x y p h => ⟨x, and2 h, fun L hx => ?_⟩
    refine biE (f := y) (and2 (and1 h)) fun cp c1 c2 => ?_
    refine call2_bi H L V (and1 (and1 (and1 h))) (and2 (and1 (and1 h))) rfl (mono1 hx fun v s₁ ⟨kp, l, L, w, q⟩ => ?_)
    refine bi_sound H L V c2 c1 ?_
    refine binv (o := asD t) e fun d e1 e => binv (o := isStrD d) e fun b e2 e => ?_
    rw [asD_inv e1] at w
    cases d with
    | inst c fs => cases e2; exact H.isS kp k A _ _ _ B L v _ _ (rep_of_view w) _ (q.eq e)
    | str i => cases e2; exact isstr_sound w (q.eq e)
    | _ => exact nos e2
  | _ => exact nos e
theorem pv_bin (H : All cx) (B : Bud k A) {o : Prim} {op : Operator} {a : PySem.Expr} {f : List PySem.Expr → Bool} {t u r : T} (ho : binOf o = some op) (hk : (tst (xBin a) fun q => (q.2.1 == op) && f [q.1, q.2.2.1]) = true) (e : prim o [t, u] = some r) : ∃ x y, f [x, y] = true ∧ Rule2 cx A env x y a t u r := by
  refine binE hk fun x op y p h => ?_
  cases eq_of_beq (and1 h)
  exact ⟨x, y, and2 h, fun _ hx => wpAny_BinOp (mono1 hx fun v s₁ hy => mono1 hy fun w s₂ ⟨_, _, L, w1, w2, q⟩ => bin_sound H.ok B L ho e w1 w2 q)⟩
theorem pv_cmp (B : Bud k A) {o : Prim} {op : CmpOp} {a : PySem.Expr} {f : List PySem.Expr → Bool} {t u r : T} (ho : cmpOf o = some op) (hk : (tst (xCmp a) fun q => (q.2.1 == op) && notSet q.2.2.1 && f [q.1, q.2.2.1]) = true) (e : prim o [t, u] = some r) : ∃ x y, f [x, y] = true ∧ Rule2 cx A env x y a t u r := by
  refine cmpE hk fun x op y p h => ?_
  cases eq_of_beq (and1 (and1 h))
  exact ⟨x, y, and2 h, fun _ hx => wpAny_Compare1 (mono1 hx fun v s₁ hy => mono1 hy fun w s₂ ⟨_, _, L, w1, w2, q⟩ => cmp_sound B L ho e w1 w2 q) (notSet_marks (and2 (and1 h)))⟩
noncomputable def lateOp : Prim → Bool
  | .get => true
  | .index => true
  | _ => false
theorem op2 (H : All cx) (B : Bud k A) (V : EnvOK A env sc ρ X) {o : Prim} {a : PySem.Expr} {f : List PySem.Expr → Bool} {t u r : T} (hl : lateOp o = false) (hk : kids sc o a f = true) (e : prim o [t, u] = some r) : ∃ x y, f [x, y] = true ∧ Rule2 cx A env x y a t u r := by
  cases o with
  | item =>
    refine subE hk fun x y p h => ⟨x, y, and2 h, fun _ hx => PyProof.Rows.Subscript_ (mono1 hx fun v s₁ hy => mono1 hy fun w s₂ ⟨_, _, L, w1, w2, q⟩ => item_sound L (fun o i => ?_) e w1 w2 q)⟩
    have hn := and1 h
    cases y <;> first | rfl | exact fot hn
  | max =>
    refine call2E hk fun g x y p h => ⟨x, y, and2 h, fun L hx => call2_bi H L V (and1 (and1 (and1 h))) (and2 (and1 (and1 h))) (and2 (and1 h)) (mono1 hx fun v s₁ hy => mono1 hy fun w s₂ ⟨_, _, _, w1, w2, q⟩ => max_sound B e w1 w2 q)⟩
  | get => exact fot hl.symm
  | index => exact fot hl.symm
  | add => exact pv_bin H B rfl hk e
  | sub => exact pv_bin H B rfl hk e
  | mul => exact pv_bin H B rfl hk e
  | fdiv => exact pv_bin H B rfl hk e
  | mod => exact pv_bin H B rfl hk e
  | eq => exact pv_cmp B rfl hk e
  | ne => exact pv_cmp B rfl hk e
  | lt => exact pv_cmp B rfl hk e
  | le => exact pv_cmp B rfl hk e
  | gt => exact pv_cmp B rfl hk e
  | ge => exact pv_cmp B rfl hk e
  | isn => exact pv_cmp B rfl hk e
  | isnt => exact pv_cmp B rfl hk e
  | inn => exact pv_cmp B rfl hk e
  | nin => exact pv_cmp B rfl hk e
  | _ => exact nos e
theorem pv_late {o : Prim} {a : PySem.Expr} {f : List PySem.Expr → Bool} {t u r : T} (hl : lateOp o = true) (hk : kids sc o a f = true) (e : prim o [t, u] = some r) (h1 : ∀ x y, f [x, y] = true → PvS cx n kp A env ρ σ ob X x t ∧ PvS cx n kp A env ρ σ ob X y u) : PvS cx n kp A env ρ σ ob X a r := by
  cases o with
  | get =>
    refine call1E hk fun g x p h => ?_
    refine attrE (a := g) h fun v m ap h => ?_
    have hh := h1 _ _ (and2 h)
    have h := and1 h
    have hm : m = _ := eq_of_beq (and1 (and1 (and1 h)))
    intro s Er Q St q
    refine meth1 (v := v) (m := m) (x := x) (apos := ap) (pos := p) (and2 (and1 (and1 h))) (and2 (and1 h)) (and2 h) (hh.1 s Er _ St fun v h' tk g w => ?_)
    obtain ⟨⟨a', rfl, h6, h7⟩, h8⟩ := get_sound (St.grow g).led (s := { s with heap := h', toks := tk }) (Er := Er) (Q := Q) (pos := p) e w (y := eval x env)
      (fun {Q} h => hh.2 _ Er _ (St.grow g) h) fun v3 h3 tk3 g3 w3 => q _ _ _ (g.trans g3) w3
    rw [hm]
    exact ⟨"dict", "dict.get", F.plainAttrs_dict, F.slot_dict_get, F.type_dict_get, h6, fun a e => by cases e; exact h7, h8⟩
  | index =>
    refine call1E hk fun g x p h => ?_
    refine attrE (a := g) h fun v m ap h => ?_
    have hh := h1 _ _ (and2 h)
    have h := and1 h
    have hm : m = _ := eq_of_beq (and1 (and1 (and1 h)))
    intro s Er Q St q
    refine meth1 (v := v) (m := m) (x := x) (apos := ap) (pos := p) (and2 (and1 (and1 h))) (and2 (and1 h)) (and2 h) (hh.1 s Er _ St fun v h' tk g w => ?_)
    obtain ⟨⟨a', rfl, h6, h7⟩, h8⟩ := index_sound (St.grow g).led (s := { s with heap := h', toks := tk }) (Er := Er) (Q := Q) (pos := p) e w (y := eval x env)
      (fun {Q} h => hh.2 _ Er _ (St.grow g) h) fun v3 h3 tk3 g3 w3 => q _ _ _ (g.trans g3) w3
    rw [hm]
    exact ⟨"list", "list.index", F.plainAttrs_list, F.slot_list_index, F.type_list_index, h6, fun a e => by cases e; exact h7, h8⟩
  | _ => exact fot hl
noncomputable def PvA (cx : Cx) (n : Nat) (kp : KP) (A : Around) (env : Env) (sc : Sc) (ρ : Nat → Option Value) (σ : Sg) (ob : Ob) (X : Lg) (p : P) : Prop := ∀ a t, chkP sc p a = true → pv σ p = some t → PvS cx n kp A env ρ σ ob X a t
theorem nil_of {α : Type} {l : List α} {x : List α} (h : some l = some x) (hx : l = []) : x = [] := by cases h; exact hx
theorem prim_len {o : Prim} {a b c : T} {l : List T} : prim o (a :: b :: c :: l) = none := by cases o <;> rfl
theorem prim_nil {o : Prim} : prim o [] = none := by cases o <;> rfl
theorem pvs_cons {p : P} {ps : List P} {r : List T} {G : Prop} (e : pvs σ (p :: ps) = some r) (k : ∀ t ts, pv σ p = some t → pvs σ ps = some ts → r = t :: ts → G) : G :=
  binv (o := pv σ p) e fun t e1 e => binv (o := pvs σ ps) e fun ts e2 e => k t ts e1 e2 (Option.some.inj e).symm
theorem pv_op (H : All cx) (B : Bud k A) (V : EnvOK A env sc ρ X) (o : Prim) : ∀ (ps : List P), (∀ p ∈ ps, PvA cx n kp A env sc ρ σ ob X p) → PvA cx n kp A env sc ρ σ ob X (.op o ps)
  | [], _ => fun a t hc e => by
    refine binv (o := pvs σ []) e fun ts e1 e => ?_
    cases e1
    exact absurd (prim_nil.symm.trans e) nofun
  | [p], ih => fun a t hc e => by
    refine binv (o := pvs σ [p]) e fun ts e1 e => pvs_cons e1 fun t1 ts1 e2 e3 e4 => ?_
    cases e3; subst e4
    obtain ⟨x, hx, R⟩ := op1 H B V hc e
    exact PvS.one (ih p (.head _) x t1 (and1 hx) e2) R
  | [p, p'], ih => fun a t hc e => by
    refine binv (o := pvs σ [p, p']) e fun ts e1 e => pvs_cons e1 fun t1 ts1 e2 e3 e4 => pvs_cons e3 fun t2 ts2 e5 e6 e7 => ?_
    cases e6; subst e7; subst e4
    have both : ∀ x y, chkPs sc [p, p'] [x, y] = true → PvS cx n kp A env ρ σ ob X x t1 ∧ PvS cx n kp A env ρ σ ob X y t2 := fun x y hx => ⟨ih p (.head _) x t1 (and1 hx) e2, ih p' (.tail _ (.head _)) y t2 (and1 (and2 hx)) e5⟩
    cases hl : lateOp o with
    | true => exact pv_late hl hc e both
    | false =>
      obtain ⟨x, y, hx, R⟩ := op2 H B V hl hc e
      exact PvS.two (both x y hx).1 (both x y hx).2 R
  | p :: p' :: p'' :: ps, _ => fun a t hc e => by
    refine binv (o := pvs σ (p :: p' :: p'' :: ps)) e fun ts e1 e => pvs_cons e1 fun t1 ts1 e2 e3 e4 => pvs_cons e3 fun t2 ts2 e5 e6 e7 => pvs_cons e6 fun t3 ts3 e8 e9 e10 => ?_
    subst e10; subst e7; subst e4
    exact absurd (prim_len.symm.trans e) nofun
theorem pv_all (H : All cx) (B : Bud k A) (V : EnvOK A env sc ρ X) : ∀ p : P, PvA cx n kp A env sc ρ σ ob X p :=
  P.rec (motive_2 := fun ps => ∀ p ∈ ps, PvA cx n kp A env sc ρ σ ob X p)
    (fun d a t hc e s Er Q St q => by
      refine constE (a := a) hc fun c j p h => ?_
      cases e
      cases d with
      | none => cases c <;> first | (cases h; done) | exact wpAny_pure (q .none s.heap s.toks Gr.refl (show Value.none = .none from rfl))
      | bool b => cases c <;> first | (cases h; done) | (cases eq_of_beq h; exact wpAny_pure (q _ _ _ Gr.refl .ofBool))
      | int b => cases c <;> first | (cases h; done) | (cases eq_of_beq h; exact wpAny_Constant_int (q _ _ _ Gr.refl .ofInt))
      | str b => cases c <;> first | (cases h; done) | (cases eq_of_beq h; exact Calls.Constant_str (q _ _ _ Gr.refl .ofStr))
      | _ => cases h)
    (fun i a t hc e s Er Q St q => by
      refine nameE (a := a) hc fun x p h => ?_
      obtain ⟨v, r, w⟩ := St.view e
      have hb := badName_of (not_of (and2 h))
      exact name_sound St.led V hb.1 hb.2 (eq_of_beq (and1 h)) r (q _ _ _ Gr.refl w))
    (fun d a t hc e s Er Q St q => by
      refine nameE (a := a) hc fun x p h => ?_
      cases e
      obtain ⟨g, hg, h5⟩ := List.any_eq_true.mp (and2 h)
      have h := and1 h
      cases eq_of_beq (and1 h5)
      obtain ⟨v, e1, e2⟩ := H.nam.glob g hg
      refine glob_sound H.ok St.led V (badName_of (not_of (and2 h))).1 (eq_of_beq (and1 h)) e1 (q _ _ _ Gr.refl (view_of_rep ?_))
      have h5 := and2 h5
      cases d with
      | tup l =>
        refine anyv h5 fun r e3 h5 => ?_
        match l, e3, h5 with
        | [a, b], rfl, h5 => rw [D.int_inv (d := a) (eq_of_beq (and1 h5)), D.int_inv (d := b) (eq_of_beq (and2 h5))]; exact e2 kp St.led.base
      | _ => cases h5)
    (fun o ps ih => pv_op H B V o ps ih)
    (fun p hp => nomatch hp)
    (fun p ps h1 h2 q hq => by
      cases hq with
      | head => exact h1
      | tail _ hq => exact h2 q hq)
theorem pv_sound (H : All cx) (B : Bud k A) (V : EnvOK A env sc ρ X) (p : P) (ast : PySem.Expr) (t : T) (hc : chkP sc p ast = true) (e : pv σ p = some t) :
    ∀ (s : Shared) (Er : Value → Shared → Prop) (Q : Value → Shared → Prop), Ste cx n kp ρ σ ob X s.heap → After cx kp s t Q → wpAny (model cx.prog cx.w) A (eval ast env) Q Er s := pv_all H B V p ast t hc e
end
end Mine.Internal
end
section
open PySem PySem.W
set_option maxRecDepth 10000
namespace Mine.Internal
inductive PE where
  | a (i : Nat)
  | c (i : Nat) (e : PE)
  | p (x y : PE)
  | n
noncomputable def PE.nth {α : Type} (d : α) : List α → Nat → α
  | [], _ => d
  | x :: l, i => Nat.rec x (fun i _ => nth d l i) i
noncomputable def PE.den (L : List Lg) (C : List (Addr × Obj)) : PE → Lg
  | .a i => nth [] L i
  | .c i e => nth (0, default) C i :: den L C e
  | .p x y => den L C x ++ den L C y
  | .n => []
noncomputable def PE.ins (k : Nat) : List Nat → List Nat
  | [] => [k]
  | x :: l => match Nat.ble k x with
    | true => k :: x :: l
    | false => x :: ins k l
noncomputable def PE.norm : PE → List Nat → List Nat
  | .a i, l => ins (2 * i) l
  | .c i e, l => ins (2 * i + 1) (norm e l)
  | .p x y, l => norm x (norm y l)
  | .n, l => l
noncomputable def PE.piece (L : List Lg) (C : List (Addr × Obj)) (k : Nat) : Lg := match Nat.beq (k % 2) 0 with
  | true => nth [] L (k / 2)
  | false => [nth (0, default) C (k / 2)]
noncomputable def PE.flat (L : List Lg) (C : List (Addr × Obj)) : List Nat → Lg
  | [] => []
  | k :: l => piece L C k ++ flat L C l
section
variable {L : List Lg} {C : List (Addr × Obj)}
theorem PE.ins_flat (k : Nat) : ∀ l, (PE.flat L C (ins k l)).Perm (piece L C k ++ PE.flat L C l)
  | [] => .refl _
  | x :: l => by
    show (PE.flat L C (match Nat.ble k x with | true => k :: x :: l | false => x :: ins k l)).Perm _
    cases Nat.ble k x with
    | true => exact .refl _
    | false => exact ((ins_flat k l).append_left _).trans (List.perm_append_comm_assoc _ _ _)
theorem PE.piece_even (i : Nat) : piece L C (2 * i) = nth [] L i := by
  unfold piece
  rw [Nat.mul_mod_right, Nat.mul_div_cancel_left i (by decide)]
theorem PE.piece_odd (i : Nat) : piece L C (2 * i + 1) = [nth (0, default) C i] := by
  unfold piece
  rw [show (2 * i + 1) % 2 = 1 by lia, show (2 * i + 1) / 2 = i by lia]
theorem PE.norm_flat : ∀ (e : PE) (l : List Nat), (PE.flat L C (norm e l)).Perm (e.den L C ++ PE.flat L C l)
  | .a i, l => (ins_flat _ l).trans (by rw [piece_even]; exact .refl _)
  | .c i e, l => (ins_flat _ _).trans (by rw [piece_odd]; exact (norm_flat e l).cons _)
  | .p x y, l => (norm_flat x _).trans (((norm_flat y l).append_left _).trans (by rw [← List.append_assoc]; exact .refl _))
  | .n, l => .refl _
theorem PE.perm (L : List Lg) (C : List (Addr × Obj)) (x y : PE) (h : norm x [] = norm y []) : (x.den L C).Perm (y.den L C) := by
  have hx := norm_flat (L := L) (C := C) x []
  have hy := norm_flat (L := L) (C := C) y []
  rw [h] at hx
  rw [show PE.flat L C [] = [] from rfl, List.append_nil] at hx hy
  exact hx.symm.trans hy
end
abbrev Sub (kp kp' : KP) : Prop := ∀ a o, kp a = some o → kp' a = some o
theorem Sub.refl {kp : KP} : Sub kp kp := fun _ _ h => h
theorem Sub.trans {a b c : KP} (x : Sub a b) (y : Sub b c) : Sub a c := fun p o h => y p o (x p o h)
theorem Sub.le {cx : Cx} {a b : KP} (x : Sub a b) : RepLe cx a b := RepLe.of_sub x
abbrev PostE (cx : Cx) (n : Nat) (kp : KP) (ρ : Nat → Option Value) (X : Lg) (s : Shared) (t : T) (σ' : Sg) (Q : Value → Shared → Prop) : Prop :=
  ∀ v kp' ob' o h' tk', Sub kp kp' → Own cx kp' v t o → Ste cx n kp' ρ σ' ob' (o ++ X) h' → Q v { s with heap := h', toks := tk' }
abbrev PostEs (cx : Cx) (n : Nat) (kp : KP) (ρ : Nat → Option Value) (X : Lg) (s : Shared) (ts : List T) (σ' : Sg) (Q : List Value → Shared → Prop) : Prop :=
  ∀ vs kp' ob' o h' tk', Sub kp kp' → OwnL cx kp' vs ts o → Ste cx n kp' ρ σ' ob' (o ++ X) h' → Q vs { s with heap := h', toks := tk' }
abbrev PostC (cx : Cx) (n : Nat) (kp : KP) (ρ : Nat → Option Value) (X : Lg) (s : Shared) (b : Bool) (σ' : Sg) (Q : Bool → Shared → Prop) : Prop :=
  ∀ kp' ob' h' tk', Sub kp kp' → Ste cx n kp' ρ σ' ob' X h' → Q b { s with heap := h', toks := tk' }
noncomputable def SndM (cx : Cx) (n : Nat) (A : Around) (env : Env) (sc : Sc) (ρ : Nat → Option Value) (m : Sem Value) (g : Sg → Option (T × Sg)) : Prop :=
  ∀ X, EnvOK A env sc ρ X → ∀ kp σ ob t σ' s Er Q, Ste cx n kp ρ σ ob X s.heap → g σ = some (t, σ') → PostE cx n kp ρ X s t σ' Q → wpAny (model cx.prog cx.w) A m Q Er s
noncomputable def SndMs (cx : Cx) (n : Nat) (A : Around) (env : Env) (sc : Sc) (ρ : Nat → Option Value) (m : Sem (List Value)) (g : Sg → Option (List T × Sg)) : Prop :=
  ∀ X, EnvOK A env sc ρ X → ∀ kp σ ob ts σ' s Er Q, Ste cx n kp ρ σ ob X s.heap → g σ = some (ts, σ') → PostEs cx n kp ρ X s ts σ' Q → wpAny (model cx.prog cx.w) A m Q Er s
noncomputable def SndC (cx : Cx) (n : Nat) (A : Around) (env : Env) (sc : Sc) (ρ : Nat → Option Value) (m : Sem Bool) (g : Sg → Option (Bool × Sg)) : Prop :=
  ∀ X, EnvOK A env sc ρ X → ∀ kp σ ob b σ' s Er Q, Ste cx n kp ρ σ ob X s.heap → g σ = some (b, σ') → PostC cx n kp ρ X s b σ' Q → wpAny (model cx.prog cx.w) A m Q Er s
theorem EnvOK.mono {A : Around} {env : Env} {sc : Sc} {ρ : Nat → Option Value} {X Y : Lg} (V : EnvOK A env sc ρ X) (h : ∀ p ∈ X, p ∈ Y) : EnvOK A env sc ρ Y :=
  ⟨V.kind, V.names, V.glob, V.blt, fun x i v e r => match V.vars x i v e r with
    | .inl ⟨oL, m, j, a, b, c⟩ => .inl ⟨oL, m, j, a, h _ b, c⟩
    | .inr ⟨c, oc, a, b, d, e⟩ => .inr ⟨c, oc, a, b, h _ d, e⟩, V.cells, fun x c e => let ⟨oc, m⟩ := V.live x c e; ⟨oc, h _ m⟩, V.apart, V.stk.mono h⟩
theorem EnvOK.add {A : Around} {env : Env} {sc : Sc} {ρ : Nat → Option Value} {X Y : Lg} (V : EnvOK A env sc ρ X) : EnvOK A env sc ρ (Y ++ X) := V.mono fun _ h => List.mem_append_right _ h
section
variable {cx : Cx} {n : Nat} {kp : KP} {k : Nat} {A : Around} {X : Lg} {env : Env} {sc : Sc} {ρ : Nat → Option Value} {σ : Sg} {ob : Ob}
theorem own_frz {v : Value} {d : D} {o : Lg} (w : Own cx kp v (.frz d) o) : o = [] ∧ Rep cx kp v d := w
theorem of_rep {v : Value} {d : D} (w : Rep cx kp v d) : Own cx kp v (.frz d) [] := ⟨rfl, w⟩
theorem PostE.eq {s : Shared} {r r' : T × Sg} {Q : Value → Shared → Prop} (e : some r = some r') (q : PostE cx n kp ρ X s r'.1 r'.2 Q) : PostE cx n kp ρ X s r.1 r.2 Q := Option.some.inj e ▸ q
theorem snd_pu (H : All cx) (B : Bud k A) {p : P} {ast : PySem.Expr} (hc : chkP sc p ast = true) :
    SndM cx n A env sc ρ (eval ast env) (fun σ => (pv σ p).bind fun t => (asD t).bind fun d => some (.frz d, σ)) :=
  fun _ V kp _ ob _ _ s Er Q St e q => binv e fun t e1 e => binv e fun d e2 e =>
    pv_sound H B V p ast t hc e1 s Er Q St fun v h' tk g w => PostE.eq (r := (T.frz d, _)) (r' := (_, _)) e q v kp ob [] h' tk Sub.refl (of_rep (rep_of_view (asD_inv e2 ▸ w))) (St.grow g)
theorem snd_var {x : Str} {i : Nat} {pos : Pos} (hx : sc.vs.lookup x = some i) (hb : badName x = false) :
    SndM cx n A env sc ρ (eval (.Name x pos) env) (fun σ => (gv σ i).bind fun t => some (.frz t.freeze, σ.set i (some (.frz t.freeze)))) := by
  intro X V kp σ ob t σ' s Er Q St e q
  refine binv e fun t' e1 e => ?_
  obtain ⟨v, r, w, S2⟩ := St.take e1
  have hi : i < n := St.len ▸ gv_lt e1
  obtain ⟨le, kk, S3⟩ := S2.freeze (Own.noFrame w)
  have rp := Own.freeze le w kk
  refine name_sound St.led V (badName_of hb).1 (badName_of hb).2 hx r ?_
  have S4 := Ste.put (o := []) (t := .frz t'.freeze) S3 hi r (of_rep rp)
  rw [List.set_set] at S4
  exact PostE.eq (r := (_, _)) (r' := (_, _)) e q v _ _ [] s.heap s.toks (kadd_sub fun p hp => S2.led.apart p (List.mem_append_right _ (List.mem_append_left _ hp))) (of_rep rp) S4
theorem snd_mov {x : Str} {i : Nat} {pos : Pos} (hx : sc.vs.lookup x = some i) (hb : badName x = false) :
    SndM cx n A env sc ρ (eval (.Name x pos) env) (fun σ => (gv σ i).bind fun t => some (t, σ.set i none)) := by
  intro X V kp σ ob t σ' s Er Q St e q
  refine binv e fun t' e1 e => ?_
  obtain ⟨v, r, w, S2⟩ := St.take e1
  refine name_sound St.led V (badName_of hb).1 (badName_of hb).2 hx r ?_
  exact PostE.eq (r := (_, _)) (r' := (_, _)) e q v _ _ _ s.heap s.toks Sub.refl w S2
theorem Ste.frz {t : T} {v : Value} {o : Lg} {h : Heap} (St : Ste cx n kp ρ σ ob (o ++ X) h) (w : Own cx kp v t o) :
    ∃ kp', Sub kp kp' ∧ Rep cx kp' v t.freeze ∧ Ste cx n kp' ρ σ ob X h := by
  obtain ⟨le, kk, S3⟩ := St.freeze (Own.noFrame w)
  exact ⟨_, kadd_sub fun p hp => St.led.apart p (List.mem_append_right _ (List.mem_append_left _ hp)), Own.freeze le w kk, S3⟩
theorem snd_frz {m : Sem Value} {g : Sg → Option (T × Sg)} (h : SndM cx n A env sc ρ m g) : SndM cx n A env sc ρ m (fun σ => (g σ).bind fun r => some (.frz r.1.freeze, r.2)) :=
  fun X V kp σ ob _ _ s Er Q St e q => binv e fun r e1 e => h X V kp σ ob r.1 r.2 s Er Q St e1 fun v kp' ob' o h' tk' sb w S =>
    let ⟨kp2, s2, r2, S2⟩ := S.frz w
    PostE.eq (r := (_, _)) (r' := (_, _)) e q v kp2 ob' [] h' tk' (sb.trans s2) (of_rep r2) S2
theorem sndMs_nil : SndMs cx n A env sc ρ (spliced []) (fun σ => some ([], σ)) := by
  intro X V kp σ ob ts σ' s Er Q St e q
  cases e
  exact Calls.spliced_nil (q [] kp ob [] s.heap s.toks Sub.refl ⟨rfl, rfl⟩ St)
theorem sndMs_cons {x : Sem Value} {xs : List (Bool × Sem Value)} {g : Sg → Option (T × Sg)} {gs : Sg → Option (List T × Sg)}
    (h : SndM cx n A env sc ρ x g) (hs : SndMs cx n A env sc ρ (spliced xs) gs) :
    SndMs cx n A env sc ρ (spliced ((false, x) :: xs)) (fun σ => (g σ).bind fun r => (gs r.2).bind fun q => some (r.1 :: q.1, q.2)) := by
  intro X V kp σ ob ts σ' s Er Q St e q
  refine binv e fun r1 e1 e => binv e fun r2 e2 e => ?_
  refine Calls.spliced_cons (h X V kp σ ob _ _ s Er _ St e1 fun v kp' ob' o h' tk' sb w S => ?_)
  refine hs (o ++ X) V.add kp' _ ob' _ _ _ Er _ S e2 fun vs kp2 ob2 o2 h2 tk2 sb2 w2 S2 => ?_
  cases e
  refine q (v :: vs) kp2 ob2 (o ++ o2) h2 tk2 (sb.trans sb2) ⟨v, vs, o, o2, rfl, rfl, w.le sb2.le, w2⟩ (S2.perm ?_)
  rw [← List.append_assoc]
  exact List.perm_append_comm.append_right _
theorem ownL_all : ∀ {ts : List T} {vs : List Value} {o : Lg} {ds : List D}, OwnL cx kp vs ts o → allD ts = some ds → o = [] ∧ RepL cx kp vs ds ∧ ts = ds.map .frz
  | [], _, _, ds, w, e => by cases e; exact ⟨w.2, w.1, rfl⟩
  | t :: ts, vs, o, ds, w, e => by
    refine binv (o := asD t) e fun d e1 e => binv (o := allD ts) e fun ds' e2 e => ?_
    cases e
    obtain ⟨v, r, o1, o2, e3, e4, w1, w2⟩ := w
    obtain ⟨h1, r2, h3⟩ := ownL_all w2 e2
    rw [asD_inv e1] at w1 ⊢
    rw [e4, h1, w1.1, h3]
    exact ⟨rfl, ⟨v, r, e3, w1.2, r2⟩, rfl⟩
theorem RepL.own : ∀ {ds : List D} {vs : List Value}, RepL cx kp vs ds → OwnL cx kp vs (ds.map .frz) []
  | [], _, r => ⟨r, rfl⟩
  | d :: ds, _, r => let ⟨v, q, e, x, y⟩ := r; ⟨v, q, [], [], e, rfl, of_rep x, y.own⟩
end
noncomputable def noStars : List PySem.Expr → Bool
  | [] => true
  | a :: r => noStar a && noStars r
noncomputable def trees (asts : List PySem.Expr) (env : Env) : List (Bool × Sem Value) := asts.map fun a => (false, eval a env)
theorem backTo_each {pos : Pos} {env : Env} : ∀ {asts : List PySem.Expr}, noStars asts = true → backTo pos (starEach asts env) = trees asts env
  | [], _ => rfl
  | a :: r, h => by
    rw [starEach_cons (and1 h)]
    exact congrArg (List.cons _) (backTo_each (pos := pos) (env := env) (and2 h))
theorem trees_plain {asts : List PySem.Expr} {env : Env} : (trees asts env).any (·.1) = false := by
  unfold trees; induction asts with
  | nil => rfl
  | cons a r ih => simpa using ih
end Mine.Internal
end
section
open PySem PySem.W
set_option maxRecDepth 10000
namespace Mine.Internal
section
variable {cx : Cx} {n : Nat} {kp : KP} {k : Nat} {A : Around} {X : Lg} {env : Env} {sc : Sc} {ρ : Nat → Option Value} {σ : Sg} {ob : Ob}
theorem Ste.setX {a : Addr} {o o' : Obj} {h h' : Heap} (x : Ste cx n kp ρ σ ob ((a, o) :: X) h) (hs : Heap.SameBut a h h') (ho : h'.get? a = some o') : Ste cx n kp ρ σ ob ((a, o') :: X) h' :=
  ⟨((x.led.perm List.perm_middle).set hs ho).perm List.perm_middle.symm, x.vars, x.len⟩
theorem ownL_length : ∀ {ts : List T} {vs : List Value} {o : Lg}, OwnL cx kp vs ts o → vs.length = ts.length
  | [], _, _, w => congrArg List.length w.1
  | t :: ts, _, _, w => by
    obtain ⟨v, r, o1, o2, e1, e2, w1, w2⟩ := w
    exact (congrArg List.length e1).trans (congrArg Nat.succ (ownL_length w2))
theorem allD_length : ∀ {ts : List T} {ds : List D}, allD ts = some ds → ds.length = ts.length
  | [], _, e => by cases e; rfl
  | t :: ts, _, e => binv (o := asD t) e fun d e1 e => binv (o := allD ts) e fun ds e2 e => (congrArg List.length (Option.some.inj e).symm).trans (congrArg Nat.succ (allD_length e2))
theorem own_list {vs : List Value} {ds : List D} {a : Addr} {m : Nat} (r : RepL cx kp vs ds) : Own cx kp (.ref a) (.olist (ds.map .frz)) [(a, lobj vs m)] := ⟨a, vs, m, [], rfl, rfl, r.own⟩
theorem snd_list {asts : List PySem.Expr} {pos : Pos} {gs : Sg → Option (List T × Sg)} (hn : noStars asts = true) (hl : ∀ σ r, gs σ = some r → r.1.length ≤ 1000)
    (h : SndMs cx n A env sc ρ (spliced (trees asts env)) gs) : SndM cx n A env sc ρ (eval (.List asts pos) env) (fun σ => (gs σ).bind fun r => some (.olist r.1, r.2)) := by
  intro X V kp σ ob t σ' s Er Q St e q
  refine binv e fun r e1 ee => ?_
  clear e
  cases ee
  refine PyProof.Rows.List_ ?_
  rw [backTo_each hn]
  refine h X V kp σ ob _ _ s Er _ St e1 fun vs kp' ob' o h' tk' sb w S => wpAny_newList ?_ (by rw [ownL_length w, sizeLine_eq]; have := hl _ _ e1; lia)
  exact q _ kp' ob' ((h'.objs.size, lobj vs 0) :: o) _ tk' sb ⟨_, vs, 0, o, rfl, rfl, w⟩ (S.push rfl)
theorem Ste.one {a : Addr} {ob1 : Obj} {h : Heap} (S : Ste cx n kp ρ σ ob ((a, ob1) :: X) h) (nf : ob1.cls ≠ .type "frame") : ∃ kp', Sub kp kp' ∧ kp' a = some ob1 ∧ Ste cx n kp' ρ σ ob X h := by
  obtain ⟨le, kk, S2⟩ := Ste.freeze (o := [(a, ob1)]) S (NF.cons rfl nf (.nil rfl))
  refine ⟨_, kadd_sub fun p hp => ?_, kk _ (.head _), S2⟩
  cases hp with
  | head => exact S.led.apart _ (List.mem_append_right _ (.head _))
  | tail _ hp => cases hp
theorem tup_nf : Value.type "tuple" ≠ .type "frame" := by simp
theorem snd_tup {asts : List PySem.Expr} {j : Nat} {pos : Pos} {gs : Sg → Option (List T × Sg)} (hn : noStars asts = true) (hl : ∀ σ r, gs σ = some r → r.1.length ≤ 1000)
    (h : SndMs cx n A env sc ρ (spliced (trees asts env)) gs) : SndM cx n A env sc ρ (eval (.Tuple asts j pos) env) (fun σ => (gs σ).bind fun r => (allD r.1).bind fun ds => some (.frz (.tup ds), r.2)) := by
  intro X V kp σ ob t σ' s Er Q St e q
  refine binv e fun r e1 e' => binv e' fun ds e2 ee => ?_
  clear e e'
  cases ee
  refine PyProof.Rows.Tuple_ ?_
  rw [backTo_each hn]
  refine h X V kp σ ob _ _ s Er _ St e1 fun vs kp' ob' o h' tk' sb w S => wpAny_newTuple ?_ (by rw [ownL_length w, sizeLine_eq]; have := hl _ _ e1; lia)
  obtain ⟨e3, rl, _⟩ := ownL_all w e2
  rw [e3] at S
  obtain ⟨kp2, sb2, k0, S2⟩ := (S.push (o := { cls := .type "tuple", data := .seq vs.toArray }) rfl).one tup_nf
  exact q _ _ ob' [] _ tk' (sb.trans sb2) ⟨rfl, _, _, _, _, rfl, k0, rfl, rfl, RepL.le sb2.le rl⟩ S2
theorem snd_idict {pos : Pos} : SndM cx n A env sc ρ (eval (.Dict [] [] pos) env) (fun σ => some (.oidict [], σ)) := by
  intro X V kp σ ob t σ' s Er Q St e q
  cases e
  exact wpAny_Dict_empty (q _ kp ob [_] _ s.toks Sub.refl ⟨_, _, fun _ => none, rfl, rfl, ⟨#[], _, rfl, rfl, fun e he => absurd he (Array.not_mem_empty e), Nat.le_refl _, fun x => rfl⟩, fun _ _ => rfl, fun k d e => nos e⟩ (St.push rfl))
theorem rep_flat {α : Type} (l : List α) (m : Nat) : (List.foldl (fun x y => x ++ y) (#[] : Array α) (List.replicate m l.toArray)).toList = (List.replicate m l).flatten := by
  have : ∀ (m : Nat) (acc : Array α), (List.foldl (fun x y => x ++ y) acc (List.replicate m l.toArray)).toList = acc.toList ++ (List.replicate m l).flatten := by
    intro m
    induction m with
    | zero => intro acc; simp
    | succ m ih => intro acc; rw [List.replicate_succ, List.foldl_cons, ih]; simp [List.replicate_succ]
  simpa using this m #[]
theorem repL_append : ∀ {a b : List D} {x y : List Value}, RepL cx kp x a → RepL cx kp y b → RepL cx kp (x ++ y) (a ++ b)
  | [], b, x, y, h1, h2 => by cases (show x = [] from h1); exact h2
  | d :: a, b, x, y, h1, h2 => by
    obtain ⟨v, q, rfl, h3, h4⟩ := h1
    exact ⟨v, _, rfl, h3, repL_append h4 h2⟩
theorem repD_repL {vs : List Value} {ds : List D} (r : RepL cx kp vs ds) : ∀ m, RepL cx kp (List.replicate m vs).flatten (repD ds m)
  | 0 => rfl
  | m + 1 => repL_append r (repD_repL r m)
theorem repL_take : ∀ {a : List D} {x : List Value} (m : Nat), RepL cx kp x a → RepL cx kp (x.take m) (a.take m)
  | [], x, m, h => by cases (show x = [] from h); cases m <;> rfl
  | d :: a, x, 0, h => rfl
  | d :: a, x, m + 1, h => by
    obtain ⟨v, q, rfl, h3, h4⟩ := h
    exact ⟨v, _, rfl, h3, repL_take m h4⟩
theorem mul_list' {prog : Program} {w : World} {Er : Value → Shared → Prop} {s : Shared} {l : Addr} {items : Array Value} {k : Nat} {x : Int} {u : Tok} {Q : Value → Shared → Prop}
    (hl : s.heap.get? l = some { cls := .type "list", dict := none, data := .seq items k, slots := #[] })
    (hlo : -(2 ^ 63 : Int) ≤ x) (hhi : x < 2 ^ 63) (hsz : items.size * x.toNat ≤ 2 ^ 24)
    (h : Q (.ref s.heap.objs.size) { s with heap := s.heap.push { cls := .type "list", data := .seq (List.foldl (fun x1 x2 => x1 ++ x2) #[] (List.replicate (if items.isEmpty = true then 0 else x.toNat) items)) } }) :
    wpAny (model prog w) A (binaryOp .Mult (.ref l) (.int x u)) Q Er s :=
  wpAny_binaryOp_repeat_ref (T := "list") (U := "int") (by decide) ⟨_, hl, rfl⟩ (fun s' => typeIs_int s' x u) noFill_list_mul F.fills_int_mul F.slot_int_rmul repeat_list F.slot_int_index.lookup
    (call_meets F.slot_int_rmul (typeIs_int s x u) F.entry_int_rmul (F.args_int_rmul_2 _ _) (int___rmul___int_list x u l items k)
      ⟨hl, rfl, ⟨_, hl, rfl⟩, call_meets F.slot_list_mul ⟨_, hl, rfl⟩ F.entry_list_mul (F.args_list_mul_2 _ _)
        (AutoListH.list___mul___list_int_3 l items k x u (by simp [Builtin.List.listFitsIndex]; lia) (by lia) (by simp [Builtin.List.listTooLong, sizeLine]; lia))
        ⟨hl, h⟩⟩)
theorem snd_rep {a b : PySem.Expr} {pos : Pos} {ga gb : Sg → Option (T × Sg)} (ha : SndM cx n A env sc ρ (eval a env) ga) (hb : SndM cx n A env sc ρ (eval b env) gb) :
    SndM cx n A env sc ρ (eval (.BinOp a .Mult b pos) env) (fun σ => (ga σ).bind fun r => (gb r.2).bind fun q => (asL r.1).bind fun x => (asInt q.1).bind fun k => if small k && decide (x.length ≤ 1000) then some (.olist ((repD x k.toNat).map .frz), q.2) else none) := by
  intro X V kp σ ob t σ' s Er Q St e q
  refine binv e fun r1 e1 e' => binv e' fun r2 e2 e'' => binv e'' fun l e3 f => binv f fun kk e4 f' => ifv f' fun hk ee => ?_
  clear e e' e'' f f'
  cases ee
  have hs : kk.natAbs ≤ 1000 := dec1 (and1 hk)
  have hl : l.length ≤ 1000 := dec1 (and2 hk)
  refine wpAny_BinOp (ha X V kp σ ob _ _ s Er _ St e1 fun v kp1 ob1 o1 h1 tk1 sb1 w1 S1 => ?_)
  rw [asL_inv e3] at w1
  obtain ⟨rfl, a', vs, m, rfl, k1, rl⟩ := w1
  refine hb _ V kp1 _ ob1 _ _ _ Er _ S1 e2 fun v2 kp2 ob2 o2 h2 tk2 sb2 w2 S2 => ?_
  rw [asInt_inv e4] at w2
  obtain ⟨rfl, τ, rfl⟩ := w2
  have k2 := sb2 _ _ k1
  have rl := RepL.le sb2.le rl
  have hlen := rl.length
  refine mul_list' (S2.led.keptSeq k2 rfl) (by lia) (by lia) ?_ ?_
  · exact Nat.le_trans (Nat.mul_le_mul (show vs.toArray.size ≤ 1000 by rw [List.size_toArray]; lia) (show kk.toNat ≤ 1000 by lia)) (show 1000 * 1000 ≤ 2 ^ 24 by decide)
  · have : (List.foldl (fun x y => x ++ y) (#[] : Array Value) (List.replicate (if vs.toArray.isEmpty = true then 0 else kk.toNat) vs.toArray)) = ((List.replicate kk.toNat vs).flatten).toArray := by
      apply Array.toList_inj.mp
      rw [rep_flat]
      cases vs with
      | nil => simp
      | cons v vs => simp
    rw [this]
    exact q _ kp2 ob2 [_] _ tk2 (sb1.trans sb2) (own_list (m := 0) (repD_repL rl kk.toNat)) (S2.push rfl)
theorem snd_cat {a b : PySem.Expr} {pos : Pos} {ga gb : Sg → Option (T × Sg)} (ha : SndM cx n A env sc ρ (eval a env) ga) (hb : SndM cx n A env sc ρ (eval b env) gb) :
    SndM cx n A env sc ρ (eval (.BinOp a .Add b pos) env) (fun σ => (ga σ).bind fun r => (gb r.2).bind fun q => (asL r.1).bind fun x => (asL q.1).bind fun y => if x.length + y.length ≤ 1000 then some (.olist ((x ++ y).map .frz), q.2) else none) := by
  intro X V kp σ ob t σ' s Er Q St e q
  refine binv e fun r1 e1 e' => binv e' fun r2 e2 e'' => binv e'' fun l e3 f => binv f fun l' e4 f' => ifv f' fun hk ee => ?_
  clear e e' e'' f f'
  cases ee
  refine wpAny_BinOp (ha X V kp σ ob _ _ s Er _ St e1 fun v kp1 ob1 o1 h1 tk1 sb1 w1 S1 => ?_)
  rw [asL_inv e3] at w1
  obtain ⟨rfl, a', vs, m, rfl, k1, rl⟩ := w1
  refine hb _ V kp1 _ ob1 _ _ _ Er _ S1 e2 fun v2 kp2 ob2 o2 h2 tk2 sb2 w2 S2 => ?_
  rw [asL_inv e4] at w2
  obtain ⟨rfl, a2, vs', m', rfl, k2, rl'⟩ := w2
  have rl := RepL.le sb2.le rl
  have l1 := rl.length
  have l2 := rl'.length
  refine P.add_list (S2.led.keptSeq (sb2 _ _ k1) rfl) (S2.led.keptSeq k2 rfl) ?_ (by simp only [List.size_toArray, sizeLine_eq]; lia)
  rw [List.append_toArray]
  exact q _ kp2 ob2 [_] _ tk2 (sb1.trans sb2) (own_list (m := 0) (repL_append rl rl')) (S2.push rfl)
theorem srcList {v : Value} {t : T} {l : List D} {h : Heap} {lg o : Lg} (L : Led cx kp lg h) (w : Own cx kp v t o) (e : asSrc t = some l) :
    o = [] ∧ ∃ a vs, v = .ref a ∧ h.IsList a vs.toArray ∧ RepL cx kp vs l := by
  rcases asSrc_inv e with e | e <;> rw [e] at w
  · obtain ⟨h0, a, vs, m, ha, k1, rl⟩ := w
    exact ⟨h0, a, vs, ha, ⟨_, L.keptSeq k1 rfl, rfl, m, rfl⟩, rl⟩
  · obtain ⟨h0, a, o, vs, m, ha, k1, c1, d1, rl⟩ := w
    exact ⟨h0, a, vs.toList, ha, ⟨_, L.keptSeq k1 d1, c1, m, d1⟩, rl⟩
theorem snd_slice {a b : PySem.Expr} {sp pos : Pos} {ga gb : Sg → Option (T × Sg)} (ha : SndM cx n A env sc ρ (eval a env) ga) (hb : SndM cx n A env sc ρ (eval b env) gb) :
    SndM cx n A env sc ρ (eval (.Subscript a (.Slice none (some b) none sp) pos) env) (fun σ => (ga σ).bind fun r => (gb r.2).bind fun q => (asSrc r.1).bind fun x => (asInt q.1).bind fun k => (idx k).bind fun k => if x.length ≤ 1000 then some (.olist ((x.take k).map .frz), q.2) else none) := by
  intro X V kp σ ob t σ' s Er Q St e q
  refine binv e fun r1 e1 e' => binv e' fun r2 e2 e'' => binv e'' fun l e3 f => binv f fun i e4 f' => binv f' fun j e5 f'' => ifv f'' fun hsz ee => ?_
  clear e e' e'' f f' f''
  obtain ⟨h0, h1, hj⟩ := idx_inv e5
  cases ee
  refine PyProof.Rows.Subscript_ (ha X V kp σ ob _ _ s Er _ St e1 fun v kp1 ob1 o1 h1 tk1 sb1 w1 S1 => ?_)
  obtain ⟨rfl, _⟩ := srcList S1.led w1 e3
  refine PySem.wpAny_Slice (wpAny_pure ?_)
  refine hb _ V kp1 _ ob1 _ _ _ Er _ S1 e2 fun v2 kp2 ob2 o2 h2 tk2 sb2 w2 S2 => wpAny_pure ?_
  rw [asInt_inv e4] at w2
  obtain ⟨rfl, τ, rfl⟩ := w2
  have S3 := S2.push (o := { cls := .type "slice", data := .fields #[.none, .int i τ, .none] }) rfl
  obtain ⟨_, a, vs, rfl, hl, rl⟩ := srcList S3.led (w1.le sb2.le) e3
  have hlen := rl.length
  refine PyProof.Rows.tail_any (ops := [.ref h2.objs.size, .ref a]) hl.typeIs F.slot_list_getitem.lookup
    (wpAny_getItem_list_slice hl (Heap.IsSliceOf.new ..) .none (.int i τ) .none (by simp) ?_ (by simp only [List.size_toArray, sizeLine_eq]; lia)) rfl
  have ei : (some i : Option Int) = some ((j : Nat) : Int) := by congr 1; lia
  rw [ei, slicePick_upto' vs.toArray j]
  refine q _ kp2 ob2 [_] _ tk2 (sb1.trans sb2) (own_list (m := 0) (repL_take j rl)) ?_
  exact Ste.dropX (X := [_]) ((S3.push rfl).perm (List.Perm.swap _ _ _))
noncomputable def PostK (cx : Cx) (n : Nat) (kp : KP) (ρ : Nat → Option Value) (X : Lg) (s : Shared) (ts : List (String × T)) (σ' : Sg) (Q : List (Value × Value) → Shared → Prop) : Prop :=
  ∀ vs kv kp' ob' o h' tk', Carries (strKind cx.prog cx.w) vs kv → Sub kp kp' → OwnK cx kp' kv ts o → Ste cx n kp' ρ σ' ob' (o ++ X) h' → Q vs { s with heap := h', toks := tk' }
noncomputable def SndK (cx : Cx) (n : Nat) (A : Around) (env : Env) (sc : Sc) (ρ : Nat → Option Value) (m : Sem (List (Value × Value))) (g : Sg → Option (List (String × T) × Sg)) : Prop :=
  ∀ X, EnvOK A env sc ρ X → ∀ kp σ ob ts σ' s Er Q, Ste cx n kp ρ σ ob X s.heap → g σ = some (ts, σ') → PostK cx n kp ρ X s ts σ' Q → wpAny (model cx.prog cx.w) A m Q Er s
theorem sndK_nil : SndK cx n A env sc ρ (evalPairs []) (fun σ => some ([], σ)) := by
  intro X V kp σ ob ts σ' s Er Q St e q
  cases e
  exact wpAny_pure (q [] [] kp ob [] s.heap s.toks trivial Sub.refl ⟨rfl, rfl⟩ St)
theorem sndK_cons {name : String} {kpos pos : Pos} {kk : Nat} {x : PySem.Expr} {prs : List (Sem Value × Sem Value)} {g : Sg → Option (T × Sg)} {gs : Sg → Option (List (String × T) × Sg)}
    (h : SndM cx n A env sc ρ (eval x env) g) (hs : SndK cx n A env sc ρ (evalPairs prs) gs) :
    SndK cx n A env sc ρ (evalPairs ((eval (.Constant (.str (Str.ofString name)) kk kpos) env, (do let v ← eval x env; standAt pos; pure v)) :: prs))
      (fun σ => (g σ).bind fun r => (gs r.2).bind fun q => some ((name, r.1) :: q.1, q.2)) := by
  intro X V kp σ ob ts σ' s Er Q St e q
  refine binv e fun r1 e1 e' => binv e' fun r2 e2 ee => ?_
  clear e e'
  cases ee
  unfold evalPairs
  refine wpAny_bind (Calls.Constant_str ?_)
  refine wpAny_bind (wpAny_holding (wpAny_bind (h X V kp σ ob _ _ _ Er _ St e1 fun v kp' ob' o h' tk' sb w S => wpAny_bind (wpAny_standAt (wpAny_pure ?_)))))
  refine wpAny_bind (wpAny_holding (hs (o ++ X) V.add kp' _ ob' _ _ _ Er _ S e2 fun vs kv kp2 ob2 o2 h2 tk2 ca sb2 w2 S2 => wpAny_pure ?_))
  refine q _ ((Str.ofString name, v) :: kv) kp2 ob2 (o ++ o2) h2 tk2 ⟨strKind_is _ _ _ _, rfl, ca⟩ (sb.trans sb2) ⟨v, kv, o, o2, rfl, rfl, w.le sb2.le, w2⟩ (S2.perm ?_)
  exact PE.perm [_, _, _] [] (.p (.a 0) (.p (.a 1) (.a 2))) (.p (.p (.a 1) (.a 0)) (.a 2)) rfl
theorem ownK_keys : ∀ {ts : List (String × T)} {kv : List (Str × Value)} {o : Lg}, OwnK cx kp kv ts o → kv.map (·.1) = ts.map fun p => Str.ofString p.1
  | [], _, _, w => congrArg (List.map (·.1)) w.1
  | (m, t) :: ts, _, _, w => by
    obtain ⟨v, q, o1, o2, e, _, w1, w2⟩ := w
    exact (congrArg (List.map (·.1)) e).trans (congrArg (List.cons _) (ownK_keys w2))
theorem nodup_ofString : ∀ {l : List String}, l.Nodup → (l.map Str.ofString).Nodup
  | [], _ => List.nodup_nil
  | a :: r, h => by
    rw [List.nodup_cons] at h
    rw [List.map_cons, List.nodup_cons]
    refine ⟨fun m => ?_, nodup_ofString h.2⟩
    obtain ⟨x, hx, e⟩ := List.mem_map.mp m
    exact h.1 (ofString_inj e ▸ hx)
theorem notModules (H : CxOK cx) {l : Lg} {h : Heap} (L : Led cx kp l h) : (h.objs.size == sysModules) = false := by
  have h1 := PyProof.Rows.modules_low (H.top.nolimit.keeps L.sub)
  exact beq_eq_false_iff_ne.mpr (Nat.ne_of_gt h1)
theorem dictObj_of {a : Addr} {kv : List (Str × Value)} {h : Heap} (m : (a == sysModules) = false) (d : h.DictOf (strKind cx.prog cx.w) a kv) (ns : ∀ p ∈ kv, p.1 ≠ ("shared" : Str)) :
    ∃ o, h.get? a = some o ∧ DictObj cx a o kv := by
  obtain ⟨o, es, ep, e, x, y, z, p, nd⟩ := d
  exact ⟨o, e, m, ns, es, ep, x, y, z, p, nd⟩
theorem snd_dict (H : All cx) {keys : List (Option PySem.Expr)} {values : List PySem.Expr} {pos : Pos} {prs : List (Sem Value × Sem Value)} {gs : Sg → Option (List (String × T) × Sg)} {names : List String}
    (hshape : (evalEachOpt keys env).zip ((evalEach values env).map fun v => do let x ← v; standAt pos; pure x) = prs.map fun p => (some p.1, p.2)) (h0 : prs ≠ []) (hlen : prs.length ≤ 15)
    (hk : ∀ σ r, gs σ = some r → r.1.map (·.1) = names) (hnd : names.Nodup) (hns : "shared" ∉ names)
    (h : SndK cx n A env sc ρ (evalPairs prs) gs) : SndM cx n A env sc ρ (eval (.Dict keys values pos) env) (fun σ => (gs σ).bind fun r => some (.odict r.1, r.2)) := by
  intro X V kp σ ob t σ' s Er Q St e q
  refine binv e fun r e1 ee => ?_
  clear e
  cases ee
  refine wpAny_Dict_pairs (knd := strKind cx.prog cx.w) hshape h0 hlen ?_
  have S0 := St.push (o := { cls := .type "dict", data := .dict #[] }) rfl
  refine h _ (V.add (Y := [_])) kp σ ob _ _ _ Er _ S0 e1 fun vs kv kp' ob' o h' tk' ca sb w S => ?_
  have keys : kv.map (·.1) = names.map Str.ofString := by
    rw [ownK_keys w, ← hk _ _ e1, List.map_map]; rfl
  have nd : (kv.map (·.1)).Nodup := by
    rw [keys]
    exact nodup_ofString hnd
  have nsh : ∀ p ∈ kv, p.1 ≠ ("shared" : Str) := by
    intro p hp e
    have : p.1 ∈ kv.map (·.1) := List.mem_map_of_mem hp
    rw [keys] at this
    obtain ⟨x, hx, e2⟩ := List.mem_map.mp this
    rw [e] at e2
    exact hns (ofString_inj e2 ▸ hx)
  have Sx := S.perm (show (o ++ ((s.heap.objs.size, { cls := .type "dict", data := .dict #[] }) :: X)).Perm ((s.heap.objs.size, { cls := .type "dict", data := .dict #[] }) :: (o ++ X)) from List.perm_middle)
  have gd : h'.get? s.heap.objs.size = some { cls := .type "dict", data := .dict #[] } := Sx.led.get (List.mem_append_right _ (.head _)) dct_nf
  refine ⟨kv, ca, ?_, fun h2 hd hs => ?_⟩
  · obtain ⟨o0, es, ep, g0, r⟩ := Heap.DictOf.new (knd := strKind cx.prog cx.w) s.heap
    rw [Heap.get?_push_size _ rfl] at g0; cases g0
    exact ⟨_, es, ep, gd, r⟩
  · rw [merged_nil_of_nodup kv nd] at hd
    obtain ⟨o2, g2, dd⟩ := dictObj_of (notModules H.ok St.led) hd nsh
    exact q _ kp' ob' ((s.heap.objs.size, o2) :: o) h2 _ sb ⟨_, o2, kv, o, rfl, rfl, dd, w⟩ (Sx.setX hs g2)
end
end Mine.Internal
end
section
open PySem PySem.W
set_option maxRecDepth 10000
namespace Mine.Internal
section
variable {cx : Cx} {n : Nat} {kp : KP} {k : Nat} {A : Around} {X : Lg} {env : Env} {sc : Sc} {ρ : Nat → Option Value} {σ : Sg} {ob : Ob}
abbrev robj (a b c : Int) (t u v : Tok) : Obj := { cls := .type "range", dict := none, data := .fields #[.int a t, .int b u, .int c v], slots := #[] }
noncomputable def IsSrc (cx : Cx) (kp : KP) (v : Value) (ds : List D) (o : Lg) : Prop :=
  (o = [] ∧ (Rep cx kp v (.list ds) ∨ Rep cx kp v (.tup ds))) ∨
  ∃ r a b c t u w, v = .ref r ∧ o = [(r, robj a b c t u w)] ∧ Builtin.Range.small a b c = true ∧ Builtin.Range.rangeSize a b c = (ds.length : Nat) ∧ ∀ (i : Nat) (d : D), ds[i]? = some d → d = D.int (a + i * c)
theorem rng_nf : Value.type "range" ≠ .type "frame" := by simp
theorem IsSrc.noFrame {v : Value} {ds : List D} {o : Lg} (h : IsSrc cx kp v ds o) : NF o := by
  rcases h with ⟨e, _⟩ | ⟨r, a, b, c, t, u, w, _, e, _⟩
  · exact .nil e
  · exact .cons e rng_nf (.nil rfl)
noncomputable def SndI (cx : Cx) (n : Nat) (A : Around) (env : Env) (sc : Sc) (ρ : Nat → Option Value) (m : Sem Value) (g : Sg → Option (List D × Sg)) : Prop :=
  ∀ X, EnvOK A env sc ρ X → ∀ kp σ ob ds σ' s Er Q, Ste cx n kp ρ σ ob X s.heap → g σ = some (ds, σ') →
    (∀ v kp' ob' o h' tk', Sub kp kp' → IsSrc cx kp' v ds o → Ste cx n kp' ρ σ' ob' (o ++ X) h' → Q v { s with heap := h', toks := tk' }) → wpAny (model cx.prog cx.w) A m Q Er s
theorem sndI_ex {m : Sem Value} {g : Sg → Option (T × Sg)} (h : SndM cx n A env sc ρ m g) : SndI cx n A env sc ρ m (fun σ => (g σ).bind fun r => (asList r.1).bind fun l => some (l, r.2)) := by
  intro X V kp σ ob ds σ' s Er Q St e q
  refine binv e fun r e1 e' => binv e' fun l e2 ee => ?_
  clear e e'
  cases ee
  refine h X V kp σ ob _ _ s Er Q St e1 fun v kp' ob' o h' tk' sb w S => ?_
  rcases asList_inv e2 with e3 | e3 <;> rw [e3] at w <;> rw [w.1] at S
  · exact q v kp' ob' [] h' tk' sb (.inl ⟨rfl, .inl w.2⟩) S
  · exact q v kp' ob' [] h' tk' sb (.inl ⟨rfl, .inr w.2⟩) S
theorem rangeL_get {a b : Int} {i : Nat} {d : D} (h : (rangeL a b)[i]? = some d) : d = .int (a + i * 1) := by
  unfold rangeL at h
  rw [List.getElem?_map] at h
  obtain ⟨j, e, rfl⟩ := Option.map_eq_some_iff.mp h
  obtain ⟨_, rfl⟩ := List.getElem?_eq_some_iff.mp e
  simp
theorem rangeDown_get {a b : Int} {i : Nat} {d : D} (h : (rangeDown a b)[i]? = some d) : d = .int (a + i * (-1)) := by
  unfold rangeDown at h
  rw [List.getElem?_map] at h
  obtain ⟨j, e, rfl⟩ := Option.map_eq_some_iff.mp h
  obtain ⟨_, rfl⟩ := List.getElem?_eq_some_iff.mp e
  rw [List.getElem_range]
  exact congrArg D.int (by lia)
theorem rangeL_length (a b : Int) : (rangeL a b).length = (b - a).toNat := by simp [rangeL]
theorem rangeDown_length (a b : Int) : (rangeDown a b).length = (a - b).toNat := by simp [rangeDown]
theorem rangeSize_down (a b : Int) : Builtin.Range.rangeSize a b (-1) = (a - b).toNat := by
  unfold Builtin.Range.rangeSize
  simp only [show ¬ ((-1 : Int) > 0) by decide, if_false, show -(-1 : Int) = 1 by decide, Int.ediv_one]
  split <;> lia
theorem small_down {a b : Int} (ha : a.natAbs ≤ 1000) (hb : b.natAbs ≤ 1000) : Builtin.Range.small a b (-1) = true := by
  unfold Builtin.Range.small
  rw [rangeSize_down]
  simp only [Builtin.Range.rangeFitsLong, Bool.and_eq_true, Bool.or_eq_true, decide_eq_true_eq, beq_iff_eq, show ¬ ((-1 : Int) > 0) by decide, if_false]
  have hn : (a - b).toNat ≤ 2000 := by lia
  have lo : ∀ {x : Int}, x.natAbs ≤ 1000 → -2 ^ 63 ≤ x := fun {x} h => Int.le_trans (show (-2 ^ 63 : Int) ≤ -1000 by decide) (show -1000 ≤ x by lia)
  have hi : ∀ {x : Int}, x.natAbs ≤ 1000 → x < 2 ^ 63 := fun {x} h => Int.lt_of_le_of_lt (show x ≤ 1000 by lia) (by decide)
  refine ⟨⟨⟨⟨⟨lo ha, hi ha⟩, lo hb, hi hb⟩, by decide, by decide⟩, Int.le_trans (by decide) (Int.natCast_nonneg _), Int.lt_of_le_of_lt (Int.ofNat_le.mpr hn) (by decide)⟩, .inr ?_⟩
  rw [show (-1 + 1 : Int) = 0 from rfl, Int.add_zero]
  exact ⟨lo hb, hi hb⟩
theorem rangeItems_inv {ts : List T} {ds : List D} {G : Prop} (e : rangeItems ts = some ds)
    (k1 : ∀ i, ts = [.frz (.int i)] → i.natAbs ≤ 1000 → ds = rangeL 0 i → G) (k2 : ∀ i j, ts = [.frz (.int i), .frz (.int j)] → i.natAbs ≤ 1000 → j.natAbs ≤ 1000 → ds = rangeL i j → G)
    (k3 : ∀ i j, ts = [.frz (.int i), .frz (.int j), .frz (.int (-1))] → i.natAbs ≤ 1000 → j.natAbs ≤ 1000 → ds = rangeDown i j → G) : G := by
  cases ts with
  | nil => exact nos e
  | cons t ts =>
    refine binv (o := asInt t) e fun i e1 e => ?_
    rw [asInt_inv e1] at k1 k2 k3
    cases ts with
    | nil => exact ifv e fun h e => k1 i rfl (dec1 h) (Option.some.inj e).symm
    | cons u ts =>
      refine binv (o := asInt u) e fun j e2 e => ?_
      rw [asInt_inv e2] at k2 k3
      cases ts with
      | nil => exact ifv e fun h e => k2 i j rfl (dec1 (and1 h)) (dec1 (and2 h)) (Option.some.inj e).symm
      | cons v ts =>
        refine binv (o := asInt v) e fun c e3 e => ?_
        cases ts with
        | nil => exact ifv e fun h e => k3 i j (by rw [asInt_inv e3, dec1 (and1 h)]) (dec1 (and1 (and2 h))) (dec1 (and2 (and2 h))) (Option.some.inj e).symm
        | cons _ _ => exact nos e
theorem range_call (H : All cx) (B : Bud k A) {Er : Value → Shared → Prop} {s : Shared} {l : Lg} (L : Led cx kp l s.heap) {ts : List T} {vs : List Value} {o : Lg} {ds : List D} {Q : Value → Shared → Prop}
    (w : OwnL cx kp vs ts o) (e : rangeItems ts = some ds)
    (q : ∀ a b c t u v tk, Builtin.Range.small a b c = true → Builtin.Range.rangeSize a b c = (ds.length : Nat) → (∀ (i : Nat) (d : D), ds[i]? = some d → d = D.int (a + i * c)) → Q (.ref s.heap.objs.size) { s with heap := s.heap.push (robj a b c t u v), toks := tk }) :
    wpAny (model cx.prog cx.w) A (call (.type "range") vs) Q Er s := by
  refine rangeItems_inv e (fun i hts hs hds => ?_) (fun i j hts hs hs2 hds => ?_) fun i j hts hs hs2 hds => ?_ <;> rw [hts] at w
  · obtain ⟨_, ⟨v, r, e1, ⟨t, e2⟩, e3⟩, _⟩ := ownL_all w (ds := [.int i]) rfl
    rw [e1, e2, show r = [] from e3]
    refine call_range_1 (q 0 i 1 _ _ _ _ (small_one (by decide) (by decide) (by lia) (by lia)) ?_ fun j d h => rangeL_get (hds ▸ h))
    rw [rangeSize_one, hds, rangeL_length]; split <;> lia
  · obtain ⟨_, ⟨v, r, e1, ⟨t, e2⟩, v2, r2, e3, ⟨t2, e4⟩, e5⟩, _⟩ := ownL_all w (ds := [.int i, .int j]) rfl
    rw [e1, e2, e3, e4, show r2 = [] from e5]
    refine call_range_2 (q i j 1 _ _ _ _ (small_one (by lia) (by lia) (by lia) (by lia)) ?_ fun j d h => rangeL_get (hds ▸ h))
    rw [rangeSize_one, hds, rangeL_length]; split <;> lia
  · obtain ⟨_, ⟨v, r, e1, ⟨t, e2⟩, v2, r2, e3, ⟨t2, e4⟩, v3, r3, e5, ⟨t3, e6⟩, e7⟩, _⟩ := ownL_all w (ds := [.int i, .int j, .int (-1)]) rfl
    rw [e1, e2, e3, e4, e5, e6, show r3 = [] from e7]
    refine call_range_3 (by decide) (q i j (-1) _ _ _ _ (small_down hs hs2) ?_ fun j d h => rangeDown_get (hds ▸ h)) (.inr (B.room H.ok L))
    rw [rangeSize_down, hds, rangeDown_length]
theorem range_nil {ts : List T} {vs : List Value} {o : Lg} {ds : List D} (w : OwnL cx kp vs ts o) (e : rangeItems ts = some ds) : o = [] := by
  refine rangeItems_inv e (fun i hts _ _ => ?_) (fun i j hts _ _ _ => ?_) fun i j hts _ _ _ => ?_ <;> rw [hts] at w
  · exact (ownL_all w (ds := [.int i]) rfl).1
  · exact (ownL_all w (ds := [.int i, .int j]) rfl).1
  · exact (ownL_all w (ds := [.int i, .int j, .int (-1)]) rfl).1
theorem callN_bi (H : All cx) {l : Lg} {s : Shared} {Er : Value → Shared → Prop} (L : Led cx kp l s.heap) (V : EnvOK A env sc ρ X) {f : PySem.Expr} {asts : List PySem.Expr} {pos : Pos} {nm : String} {Q : Value → Shared → Prop} (hf : isBi sc f nm = true) (hx : noStars asts = true) (h0 : asts ≠ [])
    (h : wpAny (model cx.prog cx.w) A (spliced (trees asts env)) (fun vs s₁ => wpAny (model cx.prog cx.w) A (call (biVal nm) vs) Q Er s₁) Er s) :
    wpAny (model cx.prog cx.w) A (eval (.Call f asts [] pos) env) Q Er s := by
  refine biE hf fun fp h2 h3 => ?_
  · refine wpAny_Call_NameR (bi_sound H L V h3 h2 ?_)
    rw [backTo_each hx]
    have core : ∀ {f : Value}, (∀ {pos : Pos} {args : List (Bool × Sem Value)} {Q : Value → Shared → Prop}, args.any (·.1) = false → wpAny (model cx.prog cx.w) A (evalArgs f true args []) (fun a s₁ => wpAny (model cx.prog cx.w) A (call f ([] ++ a.pos) a.kw) Q Er s₁) Er s → wpAny (model cx.prog cx.w) A (callWith pos f [] args []) Q Er s) →
        wpAny (model cx.prog cx.w) A (spliced (trees asts env)) (fun vs s₁ => wpAny (model cx.prog cx.w) A (call f vs) Q Er s₁) Er s → wpAny (model cx.prog cx.w) A (callWith pos f [] (trees asts env) []) Q Er s := by
      intro f hf h
      refine hf trees_plain ?_
      cases asts with
      | nil => exact absurd rfl h0
      | cons a r => exact Calls.evalArgs_plain (wpAny_mono h (fun vs s₁ h₁ => h₁) fun _ _ x => x)
    unfold biVal at h ⊢
    split
    · rename_i c; rw [if_pos c] at h; exact core (fun a b => callWith_type a b) h
    · rename_i c; rw [if_neg c] at h; exact core (fun a b => Calls.callWith_builtin a b) h
theorem sndI_range (H : All cx) (B : Bud k A) {f : PySem.Expr} {asts : List PySem.Expr} {pos : Pos} {gs : Sg → Option (List T × Sg)} (hf : isBi sc f "range" = true) (hx : noStars asts = true) (h0 : asts ≠ [])
    (h : SndMs cx n A env sc ρ (spliced (trees asts env)) gs) : SndI cx n A env sc ρ (eval (.Call f asts [] pos) env) (fun σ => (gs σ).bind fun r => (rangeItems r.1).bind fun l => some (l, r.2)) := by
  intro X V kp σ ob ds σ' s Er Q St e q
  refine binv e fun r e1 e' => binv e' fun l e2 ee => ?_
  clear e e'
  cases ee
  refine callN_bi H St.led V hf hx h0 (h X V kp σ ob _ _ s Er _ St e1 fun vs kp' ob' o h' tk' sb w S => ?_)
  have S' := range_nil w e2 ▸ S
  exact range_call (s := { s with heap := h', toks := tk' }) (Er := Er) (Q := Q) H B S'.led w e2 fun a b c t u v tk h1 h2 h3 =>
    q _ kp' ob' [_] _ tk sb (.inr ⟨_, a, b, c, t, u, v, rfl, rfl, h1, h2, h3⟩) (S'.push rfl)
theorem items_rep {a c : Int} {m : Nat} {acc : Array Value} {ds : List D} (h : ItemsOf (fun i v => ∃ t, v = .int (a + i * c) t) acc m) (hl : ds.length = m) (hd : ∀ (i : Nat) (d : D), ds[i]? = some d → d = D.int (a + i * c)) : RepL cx kp acc.toList ds := by
  obtain ⟨h1, h2⟩ := h
  have key : ∀ (ds : List D) (vs : List Value) (j : Nat), vs.length = ds.length → (∀ (i : Nat) (d : D), ds[i]? = some d → d = D.int (a + (i + j : Nat) * c)) → (∀ (i : Nat) (v : Value), vs[i]? = some v → ∃ t, v = .int (a + (i + j : Nat) * c) t) → RepL cx kp vs ds := by
    intro ds
    induction ds with
    | nil => intro vs j h _ _; exact List.eq_nil_of_length_eq_zero (by simpa using h)
    | cons d ds ih =>
      intro vs j h g1 g2
      cases vs with
      | nil => simp at h
      | cons v vs =>
        have e1 := g1 0 d (by simp)
        obtain ⟨t, e2⟩ := g2 0 v (by simp)
        subst e1 e2
        refine ⟨_, vs, rfl, ⟨t, rfl⟩, ih vs (j + 1) (by simpa using h) (fun i d e => ?_) (fun i v e => ?_)⟩
        · rw [g1 (i + 1) d (by simpa using e)]; congr 4; lia
        · obtain ⟨t, e⟩ := g2 (i + 1) v (by simpa using e); exact ⟨t, by rw [e]; congr 4; lia⟩
  exact key ds acc.toList 0 (by simp [h1, hl]) (by simpa using hd) (fun i v e => by simpa using h2 i v (by simpa using e))
theorem newList_led {h h' : Heap} {c' : Nat} {acc : Array Value} (S : Ste cx n kp ρ σ ob X h) (g : ∀ b o, h.get? b = some o → h'.get? b = some o) (e : h'.get? h.objs.size = some { cls := .type "list", dict := none, data := .seq acc c', slots := #[] }) :
    Ste cx n kp ρ σ ob ([(h.objs.size, lobj acc.toList c')] ++ X) h' := S.new g (get?_size h) (by rw [e])
theorem snd_lcopy (H : All cx) (B : Bud k A) {f it : PySem.Expr} {pos : Pos} {g : Sg → Option (List D × Sg)} (hf : isBi sc f "list" = true) (hx : noStar it = true) (h : SndI cx n A env sc ρ (eval it env) g) :
    SndM cx n A env sc ρ (eval (.Call f [it] [] pos) env) (fun σ => (g σ).bind fun r => if r.1.length ≤ 1000 then some (.olist (r.1.map .frz), r.2) else none) := by
  intro X V kp σ ob t σ' s Er Q St e q
  refine binv e fun r e1 e' => ifv e' fun hlen ee => ?_
  clear e e'
  cases ee
  refine call1_bi H St.led V hf hx (h X V kp σ ob _ _ s Er _ St e1 fun v kp' ob' o h' tk' sb w S => ?_)
  rcases w with ⟨e0, r1 | r1⟩ | ⟨r, a, b, c, t, u, w, e2, e0, h1, h2, h3⟩ <;> rw [e0] at S
  · obtain ⟨a, vs, m, rfl, k1, rl⟩ := r1
    have hl := rl.length
    exact call_list_seq a (.inl rfl) (S.led.keptSeq k1 rfl) rfl rfl (fun h2 c' g e => q _ kp' ob' [_] _ tk' sb (own_list (m := c') rl) (newList_led S g e)) (by simp only [List.size_toArray, sizeLine_eq]; lia)
  · obtain ⟨a, o, vs, m, rfl, k1, c1, d1, rl⟩ := r1
    have hl := rl.length
    rw [Array.length_toList] at hl
    exact call_list_seq a (.inr rfl) (S.led.keptSeq k1 d1) c1 d1 (fun h2 c' g e => q _ kp' ob' [_] _ tk' sb (own_list (m := c') rl) (newList_led S g e)) (by rw [sizeLine_eq]; lia)
  · have hr : IsRange h' r a b c t u w := S.led.get (List.mem_append_right _ (.head _)) rng_nf
    rw [e2]
    refine call_list_range B.handled hr h1 h2 (by lia) fun h3' tk acc' c' g e it => ?_
    exact q _ kp' ob' [_] _ tk sb (own_list (m := c') (items_rep it rfl h3)) (Ste.dropX (X := [_]) ((newList_led S g e).perm (List.Perm.swap _ _ _)))
theorem viewL_rep {h : Heap} : ∀ {ts : List T} {vs : List Value} {ds : List D}, ViewL cx kp h vs ts → allD ts = some ds → RepL cx kp vs ds
  | [], _, ds, w, e => by cases e; exact w
  | t :: ts, _, ds, w, e => by
    refine binv (o := asD t) e fun d e1 e => binv (o := allD ts) e fun ds' e2 e => ?_
    cases e
    obtain ⟨v, r, e3, w1, w2⟩ := w
    rw [asD_inv e1] at w1
    exact ⟨v, r, e3, rep_of_view w1, viewL_rep w2 e2⟩
theorem snd_lcopyP (H : All cx) (B : Bud k A) {f it : PySem.Expr} {pos : Pos} {p : P} (hf : isBi sc f "list" = true) (hx : noStar it = true) (hp : chkP sc p it = true) :
    SndM cx n A env sc ρ (eval (.Call f [it] [] pos) env) (fun σ => (pv σ p).bind fun t => (asOl t).bind fun ts => (allD ts).bind fun ds => if ds.length ≤ 1000 then some (.olist (ds.map .frz), σ) else none) := by
  intro X V kp σ ob t σ' s Er Q St e q
  refine binv e fun r e1 e' => binv e' fun ts e2 e'' => binv e'' fun ds e3 f => ifv f fun hlen ee => ?_
  clear e e' e'' f
  cases ee
  refine call1_bi H St.led V hf hx (pv_sound H B V p it _ hp e1 s Er _ St fun v h' tk g w => ?_)
  rw [asOl_inv e2] at w
  obtain ⟨a, vs, m, rfl, g1, w⟩ := w
  have rl := viewL_rep w e3
  have hl := rl.length
  exact call_list_seq a (.inl rfl) g1 rfl rfl (fun h2 c' g2 e => q _ kp ob [_] _ tk Sub.refl (own_list (m := c') rl) (newList_led (St.grow g) g2 e)) (by simp only [List.size_toArray, sizeLine_eq]; lia)
theorem repK_own : ∀ {fs : List (String × D)} {kv : List (Str × Value)}, RepK cx kp kv fs → OwnK cx kp kv (fs.map fun kv => (kv.1, .frz kv.2)) []
  | [], _, r => ⟨r, rfl⟩
  | (m, d) :: fs, _, r => by
    obtain ⟨v, q, e, x, y⟩ := r
    exact ⟨v, q, [], [], e, rfl, of_rep x, repK_own y⟩
theorem repK_length : ∀ {fs : List (String × D)} {kv : List (Str × Value)}, RepK cx kp kv fs → kv.length = fs.length
  | [], _, r => congrArg List.length r
  | (m, d) :: fs, _, r => by
    obtain ⟨v, q, e, x, y⟩ := r
    exact (congrArg List.length e).trans (congrArg Nat.succ (repK_length y))
theorem snd_dcopy (H : All cx) {f a : PySem.Expr} {pos : Pos} {g : Sg → Option (T × Sg)} (hf : isBi sc f "dict" = true) (hx : noStar a = true) (h : SndM cx n A env sc ρ (eval a env) g) :
    SndM cx n A env sc ρ (eval (.Call f [a] [] pos) env) (fun σ => (g σ).bind fun r => (asD r.1).bind fun d => d.dict?.bind fun kvs => if kvs.length ≤ 500 then some (.odict (kvs.map fun kv => (kv.1, .frz kv.2)), r.2) else none) := by
  intro X V kp σ ob t σ' s Er Q St e q
  refine binv e fun r e1 e' => binv e' fun d e2 e'' => binv e'' fun kvs e3 f => ifv f fun hlen ee => ?_
  clear e e' e'' f
  cases ee
  refine call1_bi H St.led V hf hx (h X V kp σ ob _ _ s Er _ St e1 fun v kp' ob' o h' tk' sb w S => ?_)
  rw [asD_inv e2, D.dict_inv e3] at w
  obtain ⟨rfl, a, o, kv, rfl, k1, dd, rl⟩ := w
  have hm := dict_map dd (S.led.keptDict k1 dd)
  have hlen := repK_length rl
  refine kt_call_dict (knd := strKind cx.prog cx.w) dd.1 hm (by rw [sizeLine_eq]; lia) fun h2 hd hs => ?_
  obtain ⟨o2, g2, dd2⟩ := dictObj_of (notModules H.ok S.led) hd dd.2.1
  exact q _ kp' ob' [_] h2 _ sb ⟨_, o2, kv, [], rfl, rfl, dd2, repK_own rl⟩ (Ste.setX (S.push (o := { cls := .type "dict", data := .dict #[] }) rfl) hs g2)
end
end Mine.Internal
end
section
open PySem PySem.W
set_option maxRecDepth 10000
namespace Mine.Internal
section
variable {cx : Cx} {n : Nat} {kp : KP} {k : Nat} {A : Around} {X : Lg} {env : Env} {sc : Sc} {ρ : Nat → Option Value} {σ : Sg} {ob : Ob}
theorem Own.viewOf {l : Lg} {h : Heap} {v : Value} {t : T} {o : Lg} (L : Led cx kp l h) (w : Own cx kp v t o) (m : ∀ p ∈ o, p ∈ l) : View cx kp h v t :=
  Own.view w fun p hp => L.get (m p hp) (Own.noFrame w p hp)
theorem fz {d : D} {r : T} (e : some (T.frz d) = some r) : ∃ d, r = .frz d := ⟨d, (Option.some.inj e).symm⟩
theorem notAny_frz {d : D} {r : T} (e : notAny d = some r) : ∃ d, r = .frz d := fz (notAny_inv e).2
theorem prim1_frz {o : Prim} {d : D} {r : T} (e : prim o [.frz d] = some r) : ∃ d, r = .frz d := by
  cases o with
  | neg => exact pInt_inv e fun _ _ _ _ e => fz e
  | abs => exact pInt_inv e fun _ _ _ _ e => fz e
  | str => exact pInt_inv e fun _ _ _ _ e => fz e
  | attr m => exact binv (o := d.inst?) e fun q e1 e => binv (o := q.2.lookup m) e fun d e2 e => notAny_frz e
  | len => exact binv (o := d.seq?) e fun q e1 e => lenD_inv e fun _ e => fz e
  | isi c => exact binv (o := d.inst?) e fun q e1 e => fz e
  | isstr => exact binv (o := isStrD d) e fun q e1 e => fz e
  | _ => exact nos e
theorem pIn_frz {f : Bool → Bool} {d d2 : D} {r : T} (e : pIn f [.frz d, .frz d2] = some r) : ∃ d, r = .frz d := binv (o := d2.list?) e fun ys e2 e => ifv e fun hs e => binv e fun z e3 e => fz e
theorem prim2_frz {o : Prim} {d d2 : D} {r : T} (e : prim o [.frz d, .frz d2] = some r) : ∃ d, r = .frz d := by
  cases o with
  | add => cases d with
    | int i => exact binv (o := d2.int?) e fun _ _ e => fz e
    | str i => exact binv (o := d2.str?) e fun _ _ e => ifv e fun _ e => fz e
    | _ => exact nos e
  | sub => exact pInts_inv e fun _ _ _ _ _ _ e => fz e
  | mul => exact pInts_inv e fun _ _ _ _ _ _ e => fz e
  | fdiv => exact pInts_inv e fun _ _ _ _ _ _ e => fz e
  | mod => exact pInts_inv e fun _ _ _ _ _ _ e => fz e
  | max => exact pInts_inv e fun _ _ _ _ _ _ e => fz e
  | lt => exact pInts_inv e fun _ _ _ _ _ _ e => fz e
  | le => exact pInts_inv e fun _ _ _ _ _ _ e => fz e
  | gt => exact pInts_inv e fun _ _ _ _ _ _ e => fz e
  | ge => exact pInts_inv e fun _ _ _ _ _ _ e => fz e
  | eq => exact pEq_inv e fun _ _ _ _ _ _ e => fz e
  | ne => exact pEq_inv e fun _ _ _ _ _ _ e => fz e
  | isn => exact pIs_inv e fun _ _ _ _ _ e => fz e
  | isnt => exact pIs_inv e fun _ _ _ _ _ e => fz e
  | inn => exact pIn_frz e
  | nin => exact pIn_frz e
  | item => cases d with
    | list l => exact binv (o := asInt (.frz d2)) e fun k _ e => binv (o := idx k) e fun j _ e => binv (o := l[j]?) e fun _ _ e => fz e
    | tup l => exact binv (o := asInt (.frz d2)) e fun k _ e => binv (o := idx k) e fun j _ e => binv (o := l[j]?) e fun _ _ e => fz e
    | dict l => exact binv (o := asStr (.frz d2)) e fun k _ e => binv (o := l.lookup k) e fun _ _ e => fz e
    | _ => exact nos e
  | get => exact binv (o := d.dict?) e fun l _ e => binv (o := asStr (.frz d2)) e fun k _ e => fz e
  | index => exact binv (o := d.list?) e fun l _ e => binv (o := asStr (.frz d2)) e fun k _ e => ifv e fun _ e => binv (o := strList l) e fun ss _ e => binv (o := sIndex k ss) e fun _ _ e => fz e
  | _ => exact nos e
theorem PostE.le {kp kp1 : KP} {s : Shared} {t : T} {σ' : Sg} {Q : Value → Shared → Prop} {h1 : Heap} {tk1 : Nat} (q : PostE cx n kp ρ X s t σ' Q) (sb : Sub kp kp1) : PostE cx n kp1 ρ X { s with heap := h1, toks := tk1 } t σ' Q := fun v kp2 ob2 o2 h2 tk2 sb2 w2 S2 => q v kp2 ob2 o2 h2 tk2 (sb.trans sb2) w2 S2
theorem PostC.le {kp kp1 : KP} {s : Shared} {b : Bool} {σ' : Sg} {Q : Bool → Shared → Prop} {h1 : Heap} {tk1 : Nat} (q : PostC cx n kp ρ X s b σ' Q) (sb : Sub kp kp1) : PostC cx n kp1 ρ X { s with heap := h1, toks := tk1 } b σ' Q := fun kp2 ob2 h2 tk2 sb2 S2 => q kp2 ob2 h2 tk2 (sb.trans sb2) S2
theorem allD1 {t : T} {ts : List T} {ds : List D} {G : Prop} (e : allD (t :: ts) = some ds) (k : ∀ d ds', t = .frz d → allD ts = some ds' → ds = d :: ds' → G) : G :=
  binv (o := asD t) e fun d e1 e => binv (o := allD ts) e fun ds' e2 e => k d ds' (asD_inv e1) e2 (Option.some.inj e).symm
noncomputable abbrev gop (o : Prim) (gs : Sg → Option (List T × Sg)) : Sg → Option (T × Sg) := fun σ => (gs σ).bind fun r => (allD r.1).bind fun ds => (prim o (ds.map .frz)).bind fun t => some (t, r.2)
theorem snd_op1 (H : All cx) (B : Bud k A) {o : Prim} {a : PySem.Expr} {f : List PySem.Expr → Bool} {g : Sg → Option (T × Sg)} (hk : kids sc o a f = true) (h : ∀ x, f [x] = true → SndM cx n A env sc ρ (eval x env) g) :
    SndM cx n A env sc ρ (eval a env) (gop o fun σ => (g σ).bind fun r => some ([r.1], r.2)) := by
  intro X V kp σ ob t σ' s Er Q St e q
  refine binv e fun r e1 e' => binv e' fun ds e2 e'' => binv e'' fun u e3 ee => binv e1 fun r1 e4 e5 => ?_
  clear e e' e'' e1
  cases e5
  refine allD1 e2 fun d ds' h1 h2 h3 => ?_
  cases h2; subst h3
  obtain ⟨x, hx, R⟩ := op1 H B V hk e3
  refine R St.led (h x hx X V kp σ ob _ _ s Er _ St e4 fun v kp1 ob1 o1 h1' tk1 sb1 w1 S1 => ?_)
  rw [h1] at w1
  rw [w1.1] at S1
  refine ⟨kp1, _, S1.led, view_of_rep w1.2, fun v3 h3 tk3 g3 w3 => ?_⟩
  obtain ⟨d3, rfl⟩ := prim1_frz e3
  exact PostE.eq (r := (_, _)) (r' := (_, _)) ee q v3 kp1 ob1 [] h3 tk3 sb1 (of_rep (rep_of_view w3)) (S1.grow g3)
theorem snd_op2 (H : All cx) (B : Bud k A) {o : Prim} {a : PySem.Expr} {f : List PySem.Expr → Bool} {g g' : Sg → Option (T × Sg)} (hl : lateOp o = false) (hk : kids sc o a f = true)
    (h : ∀ x y, f [x, y] = true → SndM cx n A env sc ρ (eval x env) g ∧ SndM cx n A env sc ρ (eval y env) g') :
    SndM cx n A env sc ρ (eval a env) (gop o fun σ => (g σ).bind fun r => ((g' r.2).bind fun q => some ([q.1], q.2)).bind fun q => some (r.1 :: q.1, q.2)) := by
  intro X V kp σ ob t σ' s Er Q St e q
  refine binv e fun r e1 e' => binv e' fun ds e2 e'' => binv e'' fun u e3 ee => binv e1 fun r1 e4 f1 => binv f1 fun r2 f2 f3 => binv f2 fun r3 e5 f4 => ?_
  clear e e' e'' e1 f1 f2
  cases f4; cases f3
  refine allD1 e2 fun d ds' h1 h2 h3 => allD1 h2 fun d2 ds2 h4 h5 h6 => ?_
  cases h5; subst h6; subst h3
  obtain ⟨x, y, hx, R⟩ := op2 H B V hl hk e3
  refine R St.led ((h x y hx).1 X V kp σ ob _ _ s Er _ St e4 fun v kp1 ob1 o1 h1' tk1 sb1 w1 S1 => ?_)
  rw [h1] at w1
  rw [w1.1] at S1
  refine (h x y hx).2 _ V kp1 _ ob1 _ _ _ Er _ S1 e5 fun v2 kp2 ob2 o2 h2 tk2 sb2 w2 S2 => ?_
  rw [h4] at w2
  rw [w2.1] at S2
  refine ⟨kp2, _, S2.led, view_of_rep (Rep.sub sb2 _ _ w1.2), view_of_rep w2.2, fun v3 h3 tk3 g3 w3 => ?_⟩
  obtain ⟨d3, rfl⟩ := prim2_frz e3
  exact PostE.eq (r := (_, _)) (r' := (_, _)) ee q v3 kp2 ob2 [] h3 tk3 (sb1.trans sb2) (of_rep (rep_of_view w3)) (S2.grow g3)
theorem snd_bop_one {op : BoolOp} {a : PySem.Expr} {pos : Pos} {ga : Sg → Option (T × Sg)} (ha : SndM cx n A env sc ρ (eval a env) ga) :
    SndM cx n A env sc ρ (eval (.BoolOp op [a] pos) env) (fun σ => (ga σ).bind fun r => (truthD r.1).bind fun b => some (.frz (.bool b), r.2)) := by
  intro X V kp σ ob t σ' s Er Q St e q
  refine binv e fun r e1 e' => binv e' fun b e2 ee => ?_
  rw [← truthD_inv e2] at ee
  exact PyProof.Rows.BoolOp_one (ha X V kp σ ob _ _ s Er Q St e1 (PostE.eq (r' := (_, _)) ee q))
theorem boolD {b : Bool} {v : Value} {t : T} {o : Lg} (e : truthD t = some b) (w : Own cx kp v t o) : o = [] ∧ v = .bool b := by
  rw [truthD_inv e] at w; exact w
theorem snd_bop_cons {isAnd : Bool} {a b : PySem.Expr} {rest : List PySem.Expr} {pos : Pos} {ga gr : Sg → Option (T × Sg)} (ha : SndM cx n A env sc ρ (eval a env) ga)
    (hr : SndM cx n A env sc ρ (eval (.BoolOp (if isAnd then .And else .Or) (b :: rest) pos) env) gr) :
    SndM cx n A env sc ρ (eval (.BoolOp (if isAnd then .And else .Or) (a :: b :: rest) pos) env) (fun σ => (ga σ).bind fun r => (truthD r.1).bind fun b => if b = isAnd then gr r.2 else some (.frz (.bool b), r.2)) := by
  intro X V kp σ ob t σ' s Er Q St e q
  refine binv e fun r e1 e' => binv e' fun c e2 e3 => ?_
  clear e e'
  have key : ∀ {Q' : Value → Shared → Prop}, (∀ kp1 ob1 h1 tk1, Sub kp kp1 → Ste cx n kp1 ρ r.2 ob1 X h1 → Q' (.bool c) { s with heap := h1, toks := tk1 }) → wpAny (model cx.prog cx.w) A (eval a env) Q' Er s := fun {Q'} h =>
    ha X V kp σ ob _ _ s Er Q' St e1 fun v kp1 ob1 o1 h1 tk1 sb1 w1 S1 => by
      obtain ⟨h0, hv⟩ := boolD e2 w1
      rw [h0] at S1
      rw [hv]
      exact h kp1 ob1 h1 tk1 sb1 S1
  cases isAnd
  · refine PyProof.Rows.BoolOp_or (key fun kp1 ob1 h1 tk1 sb1 S1 => wpAny_truthy_bool ?_)
    cases c
    · exact hr X V kp1 _ ob1 _ _ _ Er _ S1 e3 (q.le sb1)
    · exact PostE.eq (r := (_, _)) (r' := (_, _)) e3 q _ kp1 ob1 [] h1 tk1 sb1 (of_rep rfl) S1
  · refine PyProof.Rows.BoolOp_and (key fun kp1 ob1 h1 tk1 sb1 S1 => wpAny_truthy_bool ?_)
    cases c
    · exact PostE.eq (r := (_, _)) (r' := (_, _)) e3 q _ kp1 ob1 [] h1 tk1 sb1 (of_rep rfl) S1
    · exact hr X V kp1 _ ob1 _ _ _ Er _ S1 e3 (q.le sb1)
theorem snd_ite {c a b : PySem.Expr} {pos : Pos} {gc : Sg → Option (Bool × Sg)} {ga gb : Sg → Option (T × Sg)} (hc : SndC cx n A env sc ρ (isTrue c env (eval c env)) gc)
    (ha : SndM cx n A env sc ρ (eval a env) ga) (hb : SndM cx n A env sc ρ (eval b env) gb) :
    SndM cx n A env sc ρ (eval (.IfExp c a b pos) env) (fun σ => (gc σ).bind fun r => if r.1 then ga r.2 else gb r.2) := by
  intro X V kp σ ob t σ' s Er Q St e q
  refine binv e fun r e1 e2 => ?_
  clear e
  refine PyProof.Rows.IfExp_ (hc X V kp σ ob _ _ s Er _ St e1 fun kp1 ob1 h1 tk1 sb1 S1 => ?_)
  cases hr : r.1 <;> rw [hr] at e2
  · exact hb X V kp1 _ ob1 _ _ _ Er _ S1 e2 (q.le sb1)
  · exact ha X V kp1 _ ob1 _ _ _ Er _ S1 e2 (q.le sb1)
noncomputable def plainTruth : PySem.Expr → Bool
  | .UnaryOp .Not _ _ => false
  | .BoolOp .. => false
  | .IfExp .. => false
  | .Compare .. => false
  | _ => true
theorem plainTruth_eq {e : PySem.Expr} (h : plainTruth e = true) (whole : Sem Value) : isTrue e env whole = (do let v ← whole; standAt e.pos; holding [v] (truthy v)) := by
  cases e <;> first | rfl | (cases h; done) | skip
  rename_i op x pos
  cases op <;> first | rfl | cases h
theorem sndC_e {a : PySem.Expr} {g : Sg → Option (T × Sg)} (hp : plainTruth a = true) (ha : SndM cx n A env sc ρ (eval a env) g) :
    SndC cx n A env sc ρ (isTrue a env (eval a env)) (fun σ => (g σ).bind fun r => (truthD r.1).bind fun b => some (b, r.2)) := by
  intro X V kp σ ob b σ' s Er Q St e q
  refine binv e fun r e1 e' => binv e' fun c e2 ee => ?_
  clear e e'
  cases ee
  refine PyProof.Rows.isTrue_plain (ha X V kp σ ob _ _ s Er _ St e1 fun v kp1 ob1 o1 h1 tk1 sb1 w1 S1 => ?_) (plainTruth_eq hp _)
  obtain ⟨h0, hv⟩ := boolD e2 w1
  rw [h0] at S1
  rw [hv]
  exact wpAny_truthy_bool (q kp1 ob1 h1 tk1 sb1 S1)
theorem sndC_not {a : PySem.Expr} {pos : Pos} {whole : Sem Value} {g : Sg → Option (Bool × Sg)} (ha : SndC cx n A env sc ρ (isTrue a env (eval a env)) g) :
    SndC cx n A env sc ρ (isTrue (.UnaryOp .Not a pos) env whole) (fun σ => (g σ).bind fun r => some (!r.1, r.2)) := by
  intro X V kp σ ob b σ' s Er Q St e q
  refine binv e fun r e1 ee => ?_
  clear e
  cases ee
  exact PyProof.Rows.isTrue_not (ha X V kp σ ob _ _ s Er _ St e1 q)
theorem sndC_bop_nil {isAnd : Bool} {pos : Pos} {whole : Sem Value} : SndC cx n A env sc ρ (isTrue (.BoolOp (if isAnd then .And else .Or) [] pos) env whole) (fun σ => some (isAnd, σ)) := by
  intro X V kp σ ob b σ' s Er Q St e q
  cases e
  cases isAnd
  · exact PyProof.Rows.isTrue_or_nil (q kp ob s.heap s.toks Sub.refl St)
  · exact PyProof.Rows.isTrue_and_nil (q kp ob s.heap s.toks Sub.refl St)
theorem sndC_bop_cons {isAnd : Bool} {a : PySem.Expr} {rest : List PySem.Expr} {pos : Pos} {whole : Sem Value} {g gr : Sg → Option (Bool × Sg)} (ha : SndC cx n A env sc ρ (isTrue a env (eval a env)) g)
    (hr : SndC cx n A env sc ρ (isTrue (.BoolOp (if isAnd then .And else .Or) rest pos) env whole) gr) :
    SndC cx n A env sc ρ (isTrue (.BoolOp (if isAnd then .And else .Or) (a :: rest) pos) env whole) (fun σ => (g σ).bind fun r => if r.1 = isAnd then gr r.2 else some (r.1, r.2)) := by
  intro X V kp σ ob b σ' s Er Q St e q
  refine binv e fun ⟨c, σ1⟩ e1 e3 => ?_
  clear e
  cases isAnd
  · refine PyProof.Rows.isTrue_or (ha X V kp σ ob _ _ s Er _ St e1 fun kp1 ob1 h1 tk1 sb1 S1 => ?_)
    cases c
    · exact hr X V kp1 σ1 ob1 _ _ _ Er _ S1 e3 (q.le sb1)
    · cases e3
      exact q kp1 ob1 h1 tk1 sb1 S1
  · refine PyProof.Rows.isTrue_and (ha X V kp σ ob _ _ s Er _ St e1 fun kp1 ob1 h1 tk1 sb1 S1 => ?_)
    cases c
    · cases e3
      exact q kp1 ob1 h1 tk1 sb1 S1
    · exact hr X V kp1 σ1 ob1 _ _ _ Er _ S1 e3 (q.le sb1)
theorem sndC_cmp (B : Bud k A) {o : Prim} {op : CmpOp} {a b : PySem.Expr} {pos : Pos} {whole : Sem Value} {ga gb : Sg → Option (T × Sg)} (ho : cmpOf o = some op) (hs : notSet b = true)
    (ha : SndM cx n A env sc ρ (eval a env) ga) (hb : SndM cx n A env sc ρ (eval b env) gb) :
    SndC cx n A env sc ρ (isTrue (.Compare a [op] [b] pos) env whole) (fun σ => (ga σ).bind fun r => (gb r.2).bind fun q => (prim o [r.1, q.1]).bind fun t => (truthD t).bind fun x => some (x, q.2)) := by
  intro X V kp σ ob b σ' s Er Q St e q
  refine binv e fun r1 e1 e' => binv e' fun r2 e2 e'' => binv e'' fun t3 e3 f => binv f fun x e4 ee => ?_
  clear e e' e'' f
  cases ee
  refine wpAny_isTrue_Compare1 (ha X V kp σ ob _ _ s Er _ St e1 fun v kp1 ob1 o1 h1 tk1 sb1 w1 S1 => ?_) (notSet_marks hs)
  refine hb _ V.add kp1 _ ob1 _ _ _ Er _ S1 e2 fun v2 kp2 ob2 o2 h2 tk2 sb2 w2 S2 => ?_
  refine cmp_sound B S2.led ho e3 ((w1.le sb2.le).viewOf S2.led fun p hp => List.mem_append_right _ (List.mem_append_right _ (List.mem_append_left _ hp))) (w2.viewOf S2.led fun p hp => List.mem_append_right _ (List.mem_append_left _ hp)) fun v3 h3 tk3 g3 w3 => ?_
  rw [truthD_inv e4] at w3
  rw [show v3 = _ from w3]
  exact wpAny_truthy_bool (q kp2 ob2 h3 tk3 (sb1.trans sb2) ((S2.dropX.dropX).grow g3))
theorem sndC_pu (H : All cx) (B : Bud k A) {o : Prim} {op : CmpOp} {p p' : P} {a b : PySem.Expr} {pos : Pos} {whole : Sem Value} (ho : cmpOf o = some op) (hs : notSet b = true)
    (ha : chkP sc p a = true) (hb : chkP sc p' b = true) :
    SndC cx n A env sc ρ (isTrue (.Compare a [op] [b] pos) env whole) (fun σ => (pv σ p).bind fun t => (pv σ p').bind fun u => (prim o [t, u]).bind fun r => (truthD r).bind fun x => some (x, σ)) := by
  intro X V kp σ ob b σ' s Er Q St e q
  refine binv e fun r1 e1 e' => binv e' fun r2 e2 e'' => binv e'' fun t3 e3 f => binv f fun x e4 ee => ?_
  clear e e' e'' f
  cases ee
  refine wpAny_isTrue_Compare1 (pv_sound H B V p a _ ha e1 s Er _ St fun v h' tk g w => pv_sound H B V p' _ _ hb e2 _ Er _ (St.grow g) fun v2 h2 tk2 g2 w2 => ?_) (notSet_marks hs)
  refine cmp_sound B (St.grow (g.trans g2)).led ho e3 (w.grow g2) w2 fun v3 h3 tk3 g3 w3 => ?_
  rw [truthD_inv e4] at w3
  rw [show v3 = _ from w3]
  exact wpAny_truthy_bool (q kp ob h3 tk3 Sub.refl (St.grow (g.trans (g2.trans g3))))
theorem allD_frz : ∀ {ts : List T} {ds : List D}, allD ts = some ds → ts = ds.map .frz
  | [], _, e => by cases e; rfl
  | t :: ts, _, e => allD1 e fun d ds' h1 h2 h3 => by rw [h1, h3, allD_frz h2]; rfl
theorem freezeL_frz : ∀ {ds : List D}, freezeL (ds.map .frz) = ds
  | [] => rfl
  | d :: ds => congrArg (List.cons d) freezeL_frz
theorem sndC_nonempty (B : Bud k A) {x : Str} {i : Nat} {xp lp pos : Pos} {whole : Sem Value} (hx : sc.vs.lookup x = some i) (hb : badName x = false) :
    SndC cx n A env sc ρ (isTrue (.Compare (.Name x xp) [.NotEq] [.List [] lp] pos) env whole) (fun σ => (gv σ i).bind fun t => (asOl t).bind fun ts => (allD ts).bind fun ds => (pyEq 4 (.list ds) (.list [])).bind fun r => some (!r, σ)) := by
  intro X V kp σ ob b σ' s Er Q St e q
  refine binv e fun t e1 e' => binv e' fun ts e2 e'' => binv e'' fun ds e3 f => binv f fun x e4 ee => ?_
  clear e e' e'' f
  cases ee
  obtain ⟨v, rv, w, S2⟩ := St.take e1
  rw [asOl_inv e2, allD_frz e3] at w
  refine wpAny_isTrue_Compare1 (name_sound St.led V (badName_of hb).1 (badName_of hb).2 hx rv ?_) (notSet_marks rfl)
  refine PyProof.Rows.List_ (Calls.spliced_nil (wpAny_newList ?_ (by simp)))
  obtain ⟨kp3, sb3, k3, S4⟩ := (S2.push (o := lobj [] 0) rfl).one lst_nf
  obtain ⟨kp5, sb5, r5, S5⟩ := S4.frz (w.le sb3.le)
  rw [show (T.olist (ds.map .frz)).freeze = .list ds from congrArg D.list freezeL_frz] at r5
  refine (eq_sound (s := { s with heap := _ }) B S5.led e4 r5 ⟨_, [], 0, rfl, sb5 _ _ k3, rfl⟩).2 ?_
  exact wpAny_truthy_bool (q kp ob _ _ Sub.refl (St.grow fun b o e => Heap.get?_push_of_some _ e))
end
end Mine.Internal
end
section
open PySem PySem.W
set_option maxRecDepth 10000
namespace Mine.Internal
noncomputable def CallOK (cx : Cx) (k : Nat) (cf : Cf) : Prop := ∀ f args t σr, cf f args = some (t, σr) → ∀ A, Bud k A → ∀ (s : Shared) kp X vs o (Er Q : Value → Shared → Prop), Led cx kp (o ++ X) s.heap → OwnL cx kp vs args o → Stk A X →
  (∀ v kp' o1 o0 h' tk', Sub kp kp' → Own cx kp' v t o1 → (inout.contains f = true → ∀ t0, gv σr 0 = some t0 → ∃ v0, vs.head? = some v0 ∧ Own cx kp' v0 t0 o0) → Led cx kp' (o1 ++ (o0 ++ X)) h' → Q v { s with heap := h', toks := tk' }) →
  wpAny (model cx.prog cx.w) A (call (.ref (cx.fA f)) vs) Q Er s
noncomputable def NewOK (cx : Cx) (k : Nat) (cn : Cn) : Prop := ∀ c args t, cn c args = some t → ∀ A, Bud k A → ∀ (s : Shared) kp X vs o (Er Q : Value → Shared → Prop), Led cx kp (o ++ X) s.heap → OwnL cx kp vs args o → Stk A X →
  (∀ v kp' o1 h' tk', Sub kp kp' → Own cx kp' v t o1 → Led cx kp' (o1 ++ X) h' → Q v { s with heap := h', toks := tk' }) →
  wpAny (model cx.prog cx.w) A (call (.ref (cx.cA c)) vs) Q Er s
noncomputable def fnGlob (f : Fn) : Bool := !(f == .iNull || f == .iVector || f == .iDesign || f == .iTerms)
structure FnsOK (cx : Cx) : Prop where
  name : ∀ f, fnGlob f = true → nsIn cx.K mainGlobals (Str.ofString (fnName f)) = some (some (.ref (cx.fA f)))
  keepF : ∀ f, fnGlob f = true → keepIn cx.K (.ref (cx.fA f)) = true
  keepC : ∀ c, keepIn cx.K (.ref (cx.cA c)) = true
noncomputable def isFn (sc : Sc) (e : PySem.Expr) (f : Fn) : Bool := tst (xName e) fun q => q.1 == Str.ofString (fnName f) && sc.names.lookup q.1 == some .globalImplicit && !badName q.1 && fnGlob f
@[elab_as_elim] theorem fnE {P : PySem.Expr → Prop} {sc : Sc} {e : PySem.Expr} {f : Fn} (h : isFn sc e f = true) (k : ∀ p, sc.names.lookup (Str.ofString (fnName f)) = some .globalImplicit → badName (Str.ofString (fnName f)) = false → fnGlob f = true → P (.Name (Str.ofString (fnName f)) p)) : P e :=
  nameE h fun y p h => by cases eq_of_beq (and1 (and1 (and1 h))); exact k p (eq_of_beq (and2 (and1 (and1 h)))) (not_of (and2 (and1 h))) (and2 h)
section
variable {cx : Cx} {n : Nat} {kp : KP} {k : Nat} {A : Around} {X : Lg} {env : Env} {sc : Sc} {ρ : Nat → Option Value} {σ : Sg} {ob : Ob}
theorem evalArgs_any {M : Model} {A : Around} {E : Value → Shared → Prop} {s : Shared} {f : Value} {asts : List PySem.Expr} {Q : Args → Shared → Prop}
    (h : wpAny M A (spliced (trees asts env)) (fun vs s' => Q ⟨vs, []⟩ s') E s) : wpAny M A (evalArgs f true (trees asts env) []) Q E s := by
  cases asts with
  | nil =>
    unfold evalArgs
    show wpAny M A (spliced [] >>= _) Q E s
    refine wpAny_bind (wpAny_mono h (fun vs s' h' => ?_) fun _ _ x => x)
    refine wpAny_bind (wpAny_pure ?_)
    refine wpAny_holding ?_
    exact wpAny_bind (wpAny_pure (wpAny_bind (wpAny_pure (wpAny_pure h'))))
  | cons a r => exact Calls.evalArgs_plain h
theorem call_named (H : All cx) {l : Lg} {s : Shared} {Er : Value → Shared → Prop} (L : Led cx kp l s.heap) (V : EnvOK A env sc ρ X) {x : Str} {p pos : Pos} {f : Value} {asts : List PySem.Expr} {Q : Value → Shared → Prop}
    (hk : sc.names.lookup x = some .globalImplicit) (hb : badName x = false) (e : nsIn cx.K mainGlobals x = some (some f)) (keep : keepIn cx.K f = true) (hn : noStars asts = true)
    (h : wpAny (model cx.prog cx.w) A (spliced (trees asts env)) (fun vs s₁ => cx.K.In s₁.heap ∧ wpAny (model cx.prog cx.w) A (call f vs) Q Er s₁) Er s) :
    wpAny (model cx.prog cx.w) A (eval (.Call (.Name x p) asts [] pos) env) Q Er s := by
  refine wpAny_Call_NameR (glob_sound H.ok L V (badName_of hb).1 hk e ?_)
  rw [backTo_each hn]
  exact callWith_of (by rw [trees_plain]; rfl) (keeps_K keep) (evalArgs_any h)
theorem Ste.toLed {o : Lg} {h : Heap} (S : Ste cx n kp ρ σ ob (o ++ X) h) : Led cx kp (o ++ (fl n ob ++ X)) h := S.led.perm (by
  rw [← List.append_assoc, ← List.append_assoc]; exact List.perm_append_comm.append_right _)
theorem Ste.ofLed {kp' : KP} {o : Lg} {h h' : Heap} (S : Ste cx n kp ρ σ ob X h) (sb : Sub kp kp') (L : Led cx kp' (o ++ (fl n ob ++ X)) h') : Ste cx n kp' ρ σ ob (o ++ X) h' :=
  ⟨L.perm (by rw [← List.append_assoc, ← List.append_assoc]; exact List.perm_append_comm.append_right _), S.vars.le sb.le, S.len⟩
theorem Ste.base {o : Lg} {h : Heap} (S : Ste cx n kp ρ σ ob (o ++ X) h) : Ste cx n kp ρ σ ob X h := S.dropX
theorem snd_call (H : All cx) (F : FnsOK cx) (B : Bud k A) {cf : Cf} (C : CallOK cx k cf) {f : Fn} {fe : PySem.Expr} {asts : List PySem.Expr} {pos : Pos} {gs : Sg → Option (List T × Sg)}
    (hf : isFn sc fe f = true) (hn : noStars asts = true) (h : SndMs cx n A env sc ρ (spliced (trees asts env)) gs) :
    SndM cx n A env sc ρ (eval (.Call fe asts [] pos) env) (fun σ => (gs σ).bind fun r => (val (cf f r.1)).bind fun t => some (t, r.2)) := by
  intro X V kp σ ob t σ' s Er Q St e q
  refine binv e fun r e1 e' => binv e' fun t1 e2 ee => ?_
  clear e e'
  cases ee
  obtain ⟨σr, e2⟩ := val_inv e2
  refine fnE hf fun fp h1 h2 h3 => ?_
  refine call_named H St.led V h1 h2 (F.name f h3) (F.keepF f h3) hn (h X V kp σ ob _ _ s Er _ St e1 fun vs kp' ob' o h' tk' sb w S => ?_)
  refine ⟨H.ok.inK.keeps S.led.sub, C f _ _ σr e2 A B _ kp' _ vs o Er Q S.toLed w (V.stk.mono fun _ h => List.mem_append_right _ h) fun v kp2 o1 o0 h2 tk2 sb2 w2 _ L2 => ?_⟩
  have L3 : Led cx kp2 (o1 ++ (fl n ob' ++ X)) h2 := (L2.perm (show (o1 ++ (o0 ++ (fl n ob' ++ X))).Perm ((o1 ++ (fl n ob' ++ X)) ++ o0) by exact PE.perm [_, _, _, _] [] (.p (.a 0) (.p (.a 1) (.p (.a 2) (.a 3)))) (.p (.p (.a 0) (.p (.a 2) (.a 3))) (.a 1)) rfl)).dropR
  exact q v kp2 ob' o1 h2 tk2 (sb.trans sb2) w2 (S.base.ofLed sb2 L3)
theorem snd_new (H : All cx) (F : FnsOK cx) (B : Bud k A) {cn : Cn} (C : NewOK cx k cn) {c : Cls} {fe : PySem.Expr} {asts : List PySem.Expr} {pos : Pos} {gs : Sg → Option (List T × Sg)}
    (hf : isCls sc fe c = true) (hn : noStars asts = true) (h : SndMs cx n A env sc ρ (spliced (trees asts env)) gs) :
    SndM cx n A env sc ρ (eval (.Call fe asts [] pos) env) (fun σ => (gs σ).bind fun r => (cn c r.1).bind fun t => some (t, r.2)) := by
  intro X V kp σ ob t σ' s Er Q St e q
  refine binv e fun r e1 e' => binv e' fun t1 e2 ee => ?_
  clear e e'
  cases ee
  refine clsE hf fun fp h1 h2 => ?_
  refine call_named H St.led V h1 h2 (H.nam.cls c) (F.keepC c) hn (h X V kp σ ob _ _ s Er _ St e1 fun vs kp' ob' o h' tk' sb w S => ?_)
  refine ⟨H.ok.inK.keeps S.led.sub, C c _ _ e2 A B _ kp' _ vs o Er Q S.toLed w (V.stk.mono fun _ h => List.mem_append_right _ h) fun v kp2 o1 h2 tk2 sb2 w2 L2 => ?_⟩
  exact q v kp2 ob' o1 h2 tk2 (sb.trans sb2) w2 (S.base.ofLed sb2 L2)
theorem snd_callr (H : All cx) (F : FnsOK cx) (B : Bud k A) {cf : Cf} (C : CallOK cx k cf) {f : Fn} {fe : PySem.Expr} {x : Str} {xp : Pos} {i : Nat} {asts : List PySem.Expr} {pos : Pos} {gs : Sg → Option (List T × Sg)}
    (hf : isFn sc fe f = true) (hi : inout.contains f = true) (hx : sc.vs.lookup x = some i) (hb : badName x = false) (hn : noStars asts = true) (h : SndMs cx n A env sc ρ (spliced (trees asts env)) gs) :
    SndM cx n A env sc ρ (eval (.Call fe (.Name x xp :: asts) [] pos) env) (fun σ => (gv σ i).bind fun t => (gs (σ.set i none)).bind fun r => (cf f (t :: r.1)).bind fun q => (gv q.2 0).bind fun t' => some (q.1, r.2.set i (some t'))) := by
  intro X V kp σ ob t σ' s Er Q St e q
  refine binv e fun t0 e0 e' => binv e' fun r e1 e'' => binv e'' fun y e2 f' => binv f' fun t' e3 ee => ?_
  clear e e' e'' f'
  cases ee
  obtain ⟨t1, σr⟩ := y
  refine fnE hf fun fp h1 h2 h3 => ?_
  obtain ⟨v0, r0, w0, S0⟩ := St.take e0
  have hin : i < n := St.len ▸ gv_lt e0
  refine call_named H St.led V h1 h2 (F.name f h3) (F.keepF f h3) (show (noStar (.Name x xp) && noStars asts) = true from hn) ?_
  refine Calls.spliced_cons (name_sound St.led V (badName_of hb).1 (badName_of hb).2 hx r0 ?_)
  refine h (ob i ++ X) V.add kp _ _ _ _ s Er _ S0 e1 fun vs kp' ob' o h' tk' sb w S => ?_
  have L1 : Led cx kp' ((ob i ++ o) ++ (fl n ob' ++ X)) h' := S.led.perm (by exact PE.perm [_, _, _, _] [] (.p (.a 0) (.p (.a 1) (.p (.a 2) (.a 3)))) (.p (.p (.a 2) (.a 1)) (.p (.a 0) (.a 3))) rfl)
  refine ⟨H.ok.inK.keeps S.led.sub, C f _ t1 σr e2 A B _ kp' _ _ _ Er Q L1 ⟨v0, vs, _, _, rfl, rfl, w0.le sb.le, w⟩ (V.stk.mono fun _ h => List.mem_append_right _ h) fun v kp2 o1 o0 h2 tk2 sb2 w2 w3 L2 => ?_⟩
  obtain ⟨v0', e4, w4⟩ := w3 hi t' e3
  cases e4
  have S3 : Ste cx n kp2 ρ _ ob' (o0 ++ (o1 ++ X)) h2 := ⟨L2.perm (by exact PE.perm [_, _, _, _] [] (.p (.a 0) (.p (.a 1) (.p (.a 2) (.a 3)))) (.p (.a 2) (.p (.a 1) (.p (.a 0) (.a 3)))) rfl), S.vars.le sb2.le, S.len⟩
  exact q v kp2 _ o1 h2 tk2 (sb.trans sb2) w2 (S3.put hin r0 w4)
end
end Mine.Internal
end
section
open PySem PySem.W
set_option maxRecDepth 10000
namespace Mine.Internal
noncomputable def upd (ρ : Nat → Option Value) (i : Nat) (v : Option Value) : Nat → Option Value := fun j => if j = i then v else ρ j
noncomputable def Wr (env : Env) (ST : Lg) (x : Str) : Prop :=
  (env.kindOf x = some .local ∧ ∃ oL m j, (env.locals, oL) ∈ ST ∧ NsObj oL m j) ∨
  (env.kindOf x = some .cell ∧ ∃ c oc v, env.cells.lookup x = some c ∧ (c, oc) ∈ ST ∧ oc.data = .cell v)
structure FrameOK (env : Env) (ws : List Str) (ST : Lg) : Prop where
  loc : ∃ oL m j, (env.locals, oL) ∈ ST ∧ NsObj oL m j
  wr : ∀ x ∈ ws, Wr env ST x
theorem NsObj.cong {o : Obj} {m m' : Str → Option Value} {j j' : Nat} (a : NsObj o m j) (b : NsObj o m' j') : m = m' := by
  obtain ⟨es, ep, e1, _, _, e2⟩ := a
  obtain ⟨es', ep', f1, _, _, f2⟩ := b
  rw [e1] at f1; cases f1
  exact funext fun x => (e2 x).symm.trans (f2 x)
theorem nsObj_of {h : Heap} {a : Addr} {m : Str → Option Value} (x : h.Ns a m) : ∃ o j, h.get? a = some o ∧ NsObj o m j := by
  obtain ⟨o, es, ep, e, d, k, f⟩ := x
  exact ⟨o, es.size, e, es, ep, d, k, Nat.le_refl _, f⟩
theorem ns_of {h : Heap} {a : Addr} {o : Obj} {m : Str → Option Value} {j : Nat} (e : h.get? a = some o) (x : NsObj o m j) : h.Ns a m := by
  obtain ⟨es, ep, d, k, _, f⟩ := x
  exact ⟨o, es, ep, e, d, k, f⟩
section
variable {cx : Cx} {n : Nat} {kp : KP} {k : Nat} {A : Around} {X Y ST : Lg} {env : Env} {sc : Sc} {ρ : Nat → Option Value} {σ : Sg} {ob : Ob}
theorem Led.uniq {l : Lg} {h : Heap} (L : Led cx kp l h) {a : Addr} {o o' : Obj} (x : (a, o) ∈ l) (y : (a, o') ∈ l) : o = o' := by
  have e1 := lookup_of_mem_nodup' L.nodup x
  have e2 := lookup_of_mem_nodup' L.nodup y
  rw [e1] at e2; exact Option.some.inj e2
theorem putName_ns {o : Obj} {m : Str → Option Value} {j : Nat} (hn : NsObj o m j) (name : Str) (hash : Int) (t : Tok) (v : Value) :
    NsObj (Obj.putName name hash (.str name t) v o) (fun x => if x = name then some v else m x) (if (m name).isSome then j else j + 1) ∧ (Obj.putName name hash (.str name t) v o).cls = o.cls := by
  obtain ⟨es, ep, hd, hk, hz, hm⟩ := hn
  obtain ⟨c, d, dt, sl⟩ := o
  dsimp only at hd
  subst hd
  cases hi : es.findIdx? (·.key.isStr name) with
  | some i =>
    have hs : (m name).isSome = true := by
      rw [← hm name]
      unfold nsFind findBy
      rw [Option.isSome_map, Array.find?_isSome]
      obtain ⟨h1, h2⟩ := Array.findIdx?_eq_some_iff_getElem.mp hi
      exact ⟨es[i], Array.getElem_mem _, h2.1⟩
    refine ⟨⟨_, ep, by simp only [Obj.putName_eq, Obj.putNameByArray, hi]; rfl, hk.modify _ _, ?_, fun x => ?_⟩, by simp only [Obj.putName_eq, Obj.putNameByArray, hi]⟩
    · rw [hs, if_pos rfl, Array.size_modify]; exact hz
    · show _ = if x = name then some v else m x
      rw [← hm]; exact findBy_modify (fun n v => v.isStr n) Value.isStr_inj es name x v i hi
  | none =>
    refine ⟨⟨_, ep + 1, by simp only [Obj.putName_eq, Obj.putNameByArray, hi]; rfl, hk.push _ _ _ _, ?_, fun x => ?_⟩, by simp only [Obj.putName_eq, Obj.putNameByArray, hi]⟩
    · have hs : (m name).isSome = false := by
        rw [← hm name]
        unfold nsFind findBy
        rw [Option.isSome_map]
        rw [Bool.eq_false_iff]
        intro q
        rw [Array.find?_isSome] at q
        obtain ⟨e, he, hq⟩ := q
        have := Array.findIdx?_eq_none_iff.mp hi e he
        dsimp only at hq
        rw [hq] at this; cases this
      rw [hs, Array.size_push]
      simp only [Bool.false_eq_true, if_false]
      lia
    · show _ = if x = name then some v else m x
      rw [← hm]
      exact findBy_push (fun n v => v.isStr n) es name x _ _ v (fun y => by
        show (name == y) = decide (y = name)
        by_cases h : y = name
        · subst h; simp
        · have : ¬ name = y := fun e => h e.symm
          simp [h, this]) hi
theorem nsSet_sound {M : Model} {Er : Value → Shared → Prop} {s : Shared} {d : Addr} {od : Obj} {m : Str → Option Value} {j : Nat} {nm : Str} {v : Value} {Q : Unit → Shared → Prop}
    (hd : s.heap.get? d = some od) (ns : NsObj od m j)
    (q : ∀ h' od' tk, Heap.SameBut d s.heap h' → h'.get? d = some od' → od'.cls = od.cls → NsObj od' (fun y => if y = nm then some v else m y) (if (m nm).isSome then j else j + 1) → Q () { s with heap := h', toks := tk }) :
    wpAny M A (nsSet d nm v) Q Er s := by
  unfold nsSet
  refine wpAny_bind (wpAny_bind (wpAny_askSetting (wpAny_pure (wpAny_bind (wpAny_mkText (wpAny_bind (wpAny_loadPart hd ?_)))))))
  have key := fun hash t => putName_ns ns nm hash t v
  obtain ⟨es, ep, e1, e2, e3, e4⟩ := ns
  have hany : es.any (·.refKey) = false := by
    rw [Array.any_eq_false']; intro e he; obtain ⟨n, t, h⟩ := e2 e he; simp [DictEntry.refKey, h]
  have c : aRefKeyMayBeTheName nm es = false := by rw [aRefKeyMayBeTheName_eq]; unfold aRefKeyMayBeTheNameByArray; rw [hany, Bool.and_false]
  rw [e1]
  dsimp only
  rw [c]
  refine wpAny_updatePart hd ?_
  have hfree : ∀ hash t, (Obj.putName nm hash (.str nm t) v od).isFreed = false := fun hash t => by
    obtain ⟨es', ep', d', _⟩ := (key hash t).1
    exact Obj.isFreed_of_dict d'
  exact q _ _ _ (Heap.SameBut.update ..) (Heap.get?_update_self _ hd (hfree _ _)) (key _ _).2 (key _ _).1
theorem Ste.forget {i : Nat} {h : Heap} (x : Ste cx n kp ρ σ ob X h) : Ste cx n kp ρ (σ.set i none) ob X h :=
  ⟨x.led, fun j t e => by
    rw [gv_set] at e
    split at e
    · simp at e
    · exact x.vars j t e, by simpa using x.len⟩
theorem Ste.rho {i : Nat} {v : Option Value} {h : Heap} (x : Ste cx n kp ρ (σ.set i none) ob X h) : Ste cx n kp (upd ρ i v) (σ.set i none) ob X h :=
  ⟨x.led, fun j t e => by
    obtain ⟨w, a, b⟩ := x.vars j t e
    rw [gv_set] at e
    split at e
    · simp at e
    · rename_i q
      exact ⟨w, by unfold upd; rw [if_neg (Ne.symm q)]; exact a, b⟩, x.len⟩
theorem mem_swap {pre post : Lg} {a : Addr} {o o' : Obj} {p : Addr × Obj} {Y : Lg} (m : p ∈ (pre ++ (a, o) :: post) ++ Y) (ne : p.1 ≠ a) : p ∈ (pre ++ (a, o') :: post) ++ Y := by
  rcases List.mem_append.mp m with m | m
  · rcases List.mem_append.mp m with m | m
    · exact List.mem_append_left _ (List.mem_append_left _ m)
    · rcases List.mem_cons.mp m with rfl | m
      · exact absurd rfl ne
      · exact List.mem_append_left _ (List.mem_append_right _ (.tail _ m))
  · exact List.mem_append_right _ m
theorem Ste.setST {pre post : Lg} {a : Addr} {o o' : Obj} {h h' : Heap} (x : Ste cx n kp ρ σ ob ((pre ++ (a, o) :: post) ++ Y) h) (hs : Heap.SameBut a h h') (ho : h'.get? a = some o') :
    Ste cx n kp ρ σ ob ((pre ++ (a, o') :: post) ++ Y) h' := by
  have p : ∀ o, ((pre ++ (a, o) :: post) ++ Y).Perm ((a, o) :: ((pre ++ post) ++ Y)) := fun o => by
    rw [← List.cons_append]; exact List.perm_middle.append_right _
  exact ((x.perm (p o)).setX hs ho).perm (p o').symm
theorem store_sound {A₂ : Around} {Z : Lg} {ws : List Str} {x : Str} {i : Nat} {v : Value} {s : Shared} {Er : Value → Shared → Prop} {Q : Unit → Shared → Prop}
    (S : Ste cx n kp ρ (σ.set i none) ob (ST ++ Y) s.heap) (hZ : ∀ p ∈ Z, p ∈ Y) (V : EnvOK A₂ env sc ρ (ST ++ Z)) (W : FrameOK env ws ST) (hx : x ∈ ws) (hi : sc.vs.lookup x = some i)
    (hinj : ∀ y, sc.vs.lookup y = some i → y = x)
    (q : ∀ ST' h' tk, Ste cx n kp (upd ρ i (some v)) (σ.set i none) ob (ST' ++ Y) h' → EnvOK A₂ env sc (upd ρ i (some v)) (ST' ++ Z) → FrameOK env ws ST' → Q () { s with heap := h', toks := tk }) :
    wpAny (model cx.prog cx.w) A (storeName env x v) Q Er s := by
  have fin : ∀ {a : Addr} {o o' : Obj} {pre post : Lg} {h' : Heap} {tk : Nat}, ST = pre ++ (a, o) :: post → Heap.SameBut a s.heap h' → h'.get? a = some o' →
      Readable env ((pre ++ (a, o') :: post) ++ Z) x v →
      (∀ y w, y ≠ x → Readable env (ST ++ Z) y w → Readable env ((pre ++ (a, o') :: post) ++ Z) y w) →
      (∀ y, Wr env ST y → Wr env (pre ++ (a, o') :: post) y) → (∀ es ep, o.cls = .type "frame" → o.data = .dict es ep → o'.cls = .type "frame" ∧ ∃ es ep, o'.data = .dict es ep) → (∃ oL m j, (env.locals, oL) ∈ pre ++ (a, o') :: post ∧ NsObj oL m j) → Q () { s with heap := h', toks := tk } := by
    intro a o o' pre post h' tk e hs ho rx ry wr fr lc
    subst e
    refine q _ h' tk (S.setST hs ho).rho ⟨V.kind, V.names, V.glob, V.blt, fun y j w ey ew => ?_, V.cells, fun y c e => ?_, V.apart, ?_⟩ ⟨lc, fun y hy => wr y (W.wr y hy)⟩
    · unfold upd at ew
      split at ew
      · rename_i c; subst c; cases ew; rw [hinj y ey]; exact rx
      · rename_i c
        exact ry y w (fun q => c (by rw [q, hi] at ey; exact (Option.some.inj ey).symm)) (V.vars y j w ey ew)
    · obtain ⟨oc, m⟩ := V.live y c e
      by_cases q : c = a
      · subst q; exact ⟨o', by simp⟩
      · exact ⟨oc, mem_swap m q⟩
    · obtain ⟨l, e, f⟩ := V.stk.ex
      refine ⟨l, e, fun ev hv => ?_⟩
      obtain ⟨a1, L, o1, b1, c1, d1, es, ep, d2⟩ := f ev hv
      by_cases q : L = a
      · subst q
        have := S.led.uniq (List.mem_append_right _ ((List.mem_append.mp c1).elim (List.mem_append_left _) fun h => List.mem_append_right _ (hZ _ h))) (show (L, o) ∈ _ from List.mem_append_right _ (List.mem_append_left _ (by simp)))
        subst this
        exact ⟨a1, L, o', b1, by simp, fr es ep d1 d2⟩
      · exact ⟨a1, L, o1, b1, mem_swap c1 q, d1, es, ep, d2⟩
  have up : ∀ p, p ∈ ST ++ Z → p ∈ ST ++ Y := fun p hp => (List.mem_append.mp hp).elim (List.mem_append_left _) fun h => List.mem_append_right _ (hZ p h)
  rcases W.wr x hx with ⟨hk, oL, m, j, hm, hn⟩ | ⟨hk, c, oc, v0, hc, hm, hd⟩
  · obtain ⟨o', g1, g2, g3, _⟩ := S.led.data (List.mem_append_right _ (List.mem_append_left _ hm))
    have hn' : NsObj o' m j := by obtain ⟨es, ep, d, r⟩ := hn; exact ⟨es, ep, g3.trans d, r⟩
    rw [storeName_local hk (by rw [V.kind]; rfl)]
    refine nsSet_sound g1 hn' fun h' o2 tk2 hs e2 hc2 n2 => ?_
    have hc3 : o2.cls = oL.cls := by rw [hc2, g2]
    generalize hj2 : (if (m x).isSome = true then j else j + 1) = j2 at n2
    obtain ⟨pre, post, e⟩ := List.append_of_mem hm
    subst e
    refine fin (o' := o2) rfl hs e2 (.inl ⟨o2, _, j2, hk, by simp, n2, by simp⟩) (fun y w ny r => ?_) (fun y wy => ?_) (fun es ep c1 c2 => ⟨by rw [hc3, c1], by obtain ⟨es2, ep2, z, _⟩ := n2; exact ⟨es2, ep2, z⟩⟩) ⟨o2, _, j2, by simp, n2⟩
    · rcases r with ⟨oL2, m2, j3, a1, a2, a3, a4⟩ | ⟨c, oc, a1, a2, a3, a4⟩
      · have := S.led.uniq (List.mem_append_right _ (up _ a2)) (List.mem_append_right _ (List.mem_append_left _ hm))
        subst this
        have := a3.cong hn; subst this
        exact .inl ⟨o2, _, j2, a1, by simp, n2, by simp only [if_neg ny]; exact a4⟩
      · refine .inr ⟨c, oc, a1, a2, mem_swap a3 fun q => ?_, a4⟩
        dsimp only at q; subst q
        have := S.led.uniq (List.mem_append_right _ (up _ a3)) (List.mem_append_right _ (List.mem_append_left _ hm))
        subst this
        obtain ⟨es, ep, d, _⟩ := hn
        rw [d] at a4; cases a4
    · rcases wy with ⟨a1, oL2, m2, j3, a2, a3⟩ | ⟨a1, c, oc, v1, a2, a3, a4⟩
      · exact .inl ⟨a1, o2, _, j2, by simp, n2⟩
      · have := mem_swap (Y := []) (o' := o2) (List.mem_append_left [] a3) (fun q => by
          dsimp only at q; subst q
          have := S.led.uniq (List.mem_append_right _ (List.mem_append_left _ a3)) (List.mem_append_right _ (List.mem_append_left _ hm))
          subst this
          obtain ⟨es, ep, d, _⟩ := hn
          rw [d] at a4; cases a4)
        exact .inr ⟨a1, c, oc, v1, a2, by simpa using this, a4⟩
  · obtain ⟨o', g1, g2, g3, _⟩ := S.led.data (List.mem_append_right _ (List.mem_append_left _ hm))
    refine wpAny_storeName_cell V.kind hk hc ⟨o', g1, g3.trans hd⟩ fun h' hv hs => ?_
    obtain ⟨o2, e2, d2⟩ := hv
    obtain ⟨pre, post, e⟩ := List.append_of_mem hm
    subst e
    have ndict : ∀ {oL : Obj} {m j}, (env.locals, oL) ∈ (pre ++ (c, oc) :: post) ++ Z → NsObj oL m j → env.locals ≠ c := fun {oL m j} a b q => by
      rw [q] at a
      have := S.led.uniq (List.mem_append_right _ (up _ a)) (List.mem_append_right _ (List.mem_append_left _ hm))
      subst this
      obtain ⟨es, ep, d, _⟩ := b
      rw [d] at hd; cases hd
    have lc : ∃ oL m j, (env.locals, oL) ∈ pre ++ (c, o2) :: post ∧ NsObj oL m j := by
      obtain ⟨oL, m, j, a, b⟩ := W.loc
      have := mem_swap (Y := []) (o' := o2) (List.mem_append_left [] a) (ndict (List.mem_append_left _ a) b)
      exact ⟨oL, m, j, by simpa using this, b⟩
    refine fin (o' := o2) (tk := s.toks) rfl hs e2 (.inr ⟨c, o2, .inl hk, hc, by simp, d2⟩) (fun y w ny r => ?_) (fun y wy => ?_) (fun es ep c1 c2 => by rw [hd] at c2; cases c2) lc
    · rcases r with ⟨oL2, m2, j3, a1, a2, a3, a4⟩ | ⟨c2, oc2, a1, a2, a3, a4⟩
      · exact .inl ⟨oL2, m2, j3, a1, mem_swap a2 (ndict a2 a3), a3, a4⟩
      · exact .inr ⟨c2, oc2, a1, a2, mem_swap a3 fun q => ny (by dsimp only at q; subst q; exact V.apart _ _ _ a2 hc), a4⟩
    · rcases wy with ⟨a1, oL2, m2, j3, a2, a3⟩ | ⟨a1, c2, oc2, v1, a2, a3, a4⟩
      · have := mem_swap (Y := []) (o' := o2) (List.mem_append_left [] a2) (ndict (List.mem_append_left _ a2) a3)
        exact .inl ⟨a1, oL2, m2, j3, by simpa using this, a3⟩
      · by_cases q : c2 = c
        · subst q
          exact .inr ⟨a1, c2, o2, some v, a2, by simp, d2⟩
        · have := mem_swap (Y := []) (o' := o2) (List.mem_append_left [] a3) q
          exact .inr ⟨a1, c2, oc2, v1, a2, by simpa using this, a4⟩
end
end Mine.Internal
end
section
open PySem PySem.W
set_option maxRecDepth 10000
namespace Mine.Internal
structure Iter (cx : Cx) (A : Around) (kp : KP) (I : Addr) (ds : List D) (St : Nat → Heap → Prop) : Prop where
  ex : ∃ fp P, Walks cx.prog cx.w A I fp [I] ds.length P St ∧ (∀ b ∈ fp, b = I ∨ ∃ o vs m, kp b = some o ∧ o.data = .seq vs m) ∧ ∀ i v d, P i v → ds[i]? = some d → Rep cx kp v d
  live : ∀ i h, St i h → ∃ o, h.get? I = some o ∧ o.cls ≠ .type "frame"
section
variable {cx : Cx} {n : Nat} {kp : KP} {k : Nat} {A : Around} {X Y ST : Lg} {env : Env} {sc : Sc} {ρ : Nat → Option Value} {σ : Sg} {ob : Ob}
theorem Iter.sub {kp' : KP} {I : Addr} {ds : List D} {St : Nat → Heap → Prop} (it : Iter cx A kp I ds St) (sb : Sub kp kp') : Iter cx A kp' I ds St := by
  obtain ⟨fp, P, W, f, r⟩ := it.ex
  exact ⟨⟨fp, P, W, fun b hb => (f b hb).imp id fun ⟨o, vs, m, e, d⟩ => ⟨o, vs, m, sb _ _ e, d⟩, fun i v d p e => Rep.sub sb _ _ (r i v d p e)⟩, it.live⟩
theorem Led.cut {l : Lg} {a : Addr} {o : Obj} {h h' : Heap} (x : Led cx kp ((a, o) :: l) h) (hs : ∀ b ob, b ≠ a → h.get? b = some ob → h'.get? b = some ob) : Led cx kp l h' := by
  have na : ∀ b ob, kp b = some ob → b ≠ a := fun b ob e q => by
    rw [q] at e; have w : kp a = none := x.apart _ (.head _); rw [w] at e; cases e
  have nd := x.nodup
  rw [List.map_cons, List.nodup_cons] at nd
  refine ⟨fun b ob e => ?_, fun p hp => ?_, nd.2, fun p hp => x.apart p (.tail _ hp), x.base, fun b ob e => hs b ob (na b ob (x.base b ob e)) (x.sub b ob e)⟩
  · obtain ⟨o', e1, e2⟩ := x.kept b ob e
    exact ⟨o', hs _ _ (na b ob e) e1, e2⟩
  · obtain ⟨o₁, e, s⟩ := x.objs p (.tail _ hp)
    exact ⟨o₁, hs _ _ (fun q => nd.1 (List.mem_map.mpr ⟨p, hp, q⟩)) e, s⟩
theorem Led.put {l : Lg} {a : Addr} {o o' : Obj} {h h' : Heap} (x : Led cx kp ((a, o) :: l) h) (hs : ∀ b ob, b ≠ a → h.get? b = some ob → h'.get? b = some ob) (ho : h'.get? a = some o') : Led cx kp ((a, o') :: l) h' := by
  have c := x.cut hs
  refine ⟨c.kept, fun p hp => ?_, x.nodup, fun p hp => ?_, c.base, c.sub⟩
  · cases hp with
    | head => exact ⟨o', ho, .inl rfl⟩
    | tail _ hp => exact c.objs p hp
  · cases hp with
    | head => have := x.apart _ (.head _); exact this
    | tail _ hp => exact c.apart p hp
theorem Ste.cut {a : Addr} {o : Obj} {h h' : Heap} (x : Ste cx n kp ρ σ ob ((a, o) :: X) h) (hs : ∀ b ob, b ≠ a → h.get? b = some ob → h'.get? b = some ob) : Ste cx n kp ρ σ ob X h' :=
  ⟨(x.led.perm List.perm_middle).cut hs, x.vars, x.len⟩
theorem Ste.putX {a : Addr} {o o' : Obj} {h h' : Heap} (x : Ste cx n kp ρ σ ob ((a, o) :: X) h) (hs : ∀ b ob, b ≠ a → h.get? b = some ob → h'.get? b = some ob) (ho : h'.get? a = some o') : Ste cx n kp ρ σ ob ((a, o') :: X) h' :=
  ⟨((x.led.perm List.perm_middle).put hs ho).perm List.perm_middle.symm, x.vars, x.len⟩
theorem iter_start (B : Bud k A) {s : Shared} {Er : Value → Shared → Prop} {Q : Value → Shared → Prop} {v : Value} {ds : List D} {o : Lg} (S : Ste cx n kp ρ σ ob (o ++ X) s.heap) (w : IsSrc cx kp v ds o)
    (q : ∀ I oI St h' tk, Iter cx A kp I ds St → St 0 h' → oI.cls ≠ .type "frame" → Ste cx n kp ρ σ ob ((I, oI) :: X) h' → Q (.ref I) { s with heap := h', toks := tk }) :
    wpAny (model cx.prog cx.w) A (pyIter v) Q Er s := by
  rcases w with ⟨rfl, r | r⟩ | ⟨r, a, b, c, t, u, w, rfl, rfl, h1, h2, h3⟩
  · obtain ⟨a, vs, m, rfl, k1, rl⟩ := r
    have g := S.led.keptSeq k1 rfl
    have hl : s.heap.IsList a vs.toArray := ⟨_, g, rfl, m, rfl⟩
    have ne : a ≠ s.heap.objs.size := Nat.ne_of_lt (Heap.lt_size g)
    refine wpAny_pyIter_list hl ?_
    have len := rl.length
    refine q s.heap.objs.size _ (fun i h => h.IsListIter s.heap.objs.size a i ∧ h.IsList a vs.toArray) _ s.toks ⟨⟨[s.heap.objs.size, a], fun i v => vs.toArray[i]? = some v, ?_, ?_, ?_⟩, ?_⟩ ⟨⟨_, Heap.get?_push_size _ rfl, rfl, rfl⟩, hl.push _⟩ ?_ (S.push rfl)
    · have W := Walks.list (prog := cx.prog) (w := cx.w) B.handled s.heap.objs.size a ne vs.toArray
      exact (show vs.toArray.size = ds.length by simpa using len) ▸ W
    · intro b hb
      rcases List.mem_cons.mp hb with rfl | hb
      · exact .inl rfl
      · rw [List.mem_singleton.mp hb]; exact .inr ⟨_, _, _, k1, rfl⟩
    · intro i v d p e
      obtain ⟨v', e1, e2⟩ := rl.get e
      have p : vs[i]? = some v := by simpa using p
      rw [p] at e1; cases e1; exact e2
    · rintro i h ⟨⟨o, e, c, _⟩, _⟩
      exact ⟨o, e, by rw [c]; simp⟩
    · simp
  · obtain ⟨a, o, vs, m, rfl, k1, c1, d1, rl⟩ := r
    have g := S.led.keptSeq k1 d1
    have hl : s.heap.IsTuple a vs := ⟨_, g, c1, m, d1⟩
    have ne : a ≠ s.heap.objs.size := Nat.ne_of_lt (Heap.lt_size g)
    refine wpAny_pyIter_tuple hl ?_
    have len := rl.length
    refine q s.heap.objs.size _ (fun i h => h.IsTupleIter s.heap.objs.size a i ∧ h.IsTuple a vs) _ s.toks ⟨⟨[s.heap.objs.size, a], fun i v => vs[i]? = some v, ?_, ?_, ?_⟩, ?_⟩ ⟨⟨_, Heap.get?_push_size _ rfl, rfl, rfl⟩, ⟨_, Heap.get?_push_of_some _ g, c1, m, d1⟩⟩ ?_ (S.push rfl)
    · have W := Walks.tuple (prog := cx.prog) (w := cx.w) B.handled s.heap.objs.size a ne vs
      exact (show vs.size = ds.length by simpa using len) ▸ W
    · intro b hb
      rcases List.mem_cons.mp hb with rfl | hb
      · exact .inl rfl
      · rw [List.mem_singleton.mp hb]; exact .inr ⟨_, _, _, k1, d1⟩
    · intro i v d p e
      obtain ⟨v', e1, e2⟩ := rl.get e
      have p : vs.toList[i]? = some v := by simpa using p
      rw [p] at e1; cases e1; exact e2
    · rintro i h ⟨⟨o, e, c, _⟩, _⟩
      exact ⟨o, e, by rw [c]; simp⟩
    · simp
  · have hr : IsRange s.heap r a b c t u w := S.led.get (List.mem_append_right _ (.head _)) (by simp)
    refine wpAny_pyIter_range hr h1 ?_
    refine q s.heap.objs.size _ (fun i h => IsRangeIter h s.heap.objs.size (a + (i : Nat) * c) ((ds.length : Int) - (i : Nat)) c) _ s.toks ⟨⟨_, _, Walks.range B.handled s.heap.objs.size a c ds.length, ?_, ?_⟩, ?_⟩ ?_ ?_ (Ste.dropX (X := [_]) ((S.push rfl).perm (List.Perm.swap _ _ _)))
    · intro b hb
      exact .inl (List.mem_singleton.mp hb)
    · rintro i v d ⟨t, rfl⟩ e
      rw [h3 i d e]
      exact ⟨t, rfl⟩
    · intro i h e
      exact ⟨_, e, by simp⟩
    · rw [h2]
      show (s.heap.push _).get? s.heap.objs.size = _
      rw [Heap.get?_push_size _ rfl]
      simp
    · simp
theorem iter_next {s : Shared} {Er : Value → Shared → Prop} {Q : Option Value → Shared → Prop} {I : Addr} {oI : Obj} {ds : List D} {St : Nat → Heap → Prop} {i : Nat} {d : D}
    (it : Iter cx A kp I ds St) (st : St i s.heap) (S : Ste cx n kp ρ σ ob ((I, oI) :: X) s.heap) (hd : ds[i]? = some d)
    (q : ∀ v oI' h' tk, Rep cx kp v d → St (i + 1) h' → oI'.cls ≠ .type "frame" → Ste cx n kp ρ σ ob ((I, oI') :: X) h' → Q (some v) { s with heap := h', toks := tk }) :
    wpAny (model cx.prog cx.w) A (pyNext (.ref I)) Q Er s := by
  obtain ⟨fp, P, W, f, r⟩ := it.ex
  refine W.item i s Q Er (by have := (List.getElem?_eq_some_iff.mp hd).1; exact this) st fun v h' tk hp st' hk => ?_
  obtain ⟨o', e, c⟩ := it.live _ _ st'
  exact q v o' h' tk (r i v d hp hd) st' c (S.putX (fun b ob hb e => hk b ob (by simpa using hb) e) e)
theorem iter_done {s : Shared} {Er : Value → Shared → Prop} {Q : Option Value → Shared → Prop} {I : Addr} {oI : Obj} {ds : List D} {St : Nat → Heap → Prop}
    (it : Iter cx A kp I ds St) (st : St ds.length s.heap) (S : Ste cx n kp ρ σ ob ((I, oI) :: X) s.heap)
    (q : ∀ h' tk, Ste cx n kp ρ σ ob X h' → Q none { s with heap := h', toks := tk }) :
    wpAny (model cx.prog cx.w) A (pyNext (.ref I)) Q Er s := by
  obtain ⟨fp, P, W, f, r⟩ := it.ex
  exact W.done s Q Er st fun h' tk hk => q h' tk (S.cut fun b ob hb e => hk b ob (by simpa using hb) e)
theorem iter_frame {h h' : Heap} {I : Addr} {oI : Obj} {ds : List D} {St : Nat → Heap → Prop} {i : Nat} {l l' : Lg} {kp' : KP} (it : Iter cx A kp I ds St) (st : St i h) (c : oI.cls ≠ .type "frame")
    (L : Led cx kp l h) (m : (I, oI) ∈ l) (L' : Led cx kp' l' h') (m' : (I, oI) ∈ l') (sb : Sub kp kp') : St i h' := by
  obtain ⟨fp, P, W, f, r⟩ := it.ex
  refine W.frame i h h' st fun b hb o e => ?_
  rcases f b hb with rfl | ⟨o', vs, mm, e1, e2⟩
  · rw [L.get m c] at e
    rw [L'.get m' c]; exact e
  · rw [L.keptSeq e1 e2] at e
    rw [L'.keptSeq (sb _ _ e1) e2]; exact e
abbrev cellObj (v : Option Value) : Obj := { cls := .type "cell", data := .cell v }
noncomputable def cellLg (n : Nat) : List (Str × NameKind) → Lg
  | [] => []
  | (_, k) :: r => if k == .cell then cellLg (n + 1) r ++ [(n, cellObj none)] else cellLg n r
theorem Led.cells : ∀ (names : List (Str × NameKind)) {h : Heap} {l : Lg}, Led cx kp l h → Led cx kp (cellLg h.objs.size names ++ l) (pushCells h names)
  | [], h, l, L => L
  | (x, k) :: r, h, l, L => by
    unfold cellLg pushCells
    split
    · have L1 := L.push (o := cellObj none) rfl
      have := Led.cells r L1
      rw [Heap.size_push] at this
      rw [List.append_assoc]
      exact this
    · exact Led.cells r L
theorem Ste.cells (names : List (Str × NameKind)) {h : Heap} (S : Ste cx n kp ρ σ ob X h) : Ste cx n kp ρ σ ob (cellLg h.objs.size names ++ X) (pushCells h names) :=
  ⟨(S.led.cells names).perm (List.perm_append_comm_assoc _ _ _), S.vars, S.len⟩
theorem cellsFrom_mem : ∀ (names : List (Str × NameKind)) {n : Nat} {acc : List (Str × Addr)} {p : Str × Addr}, p ∈ cellsFrom n names acc → p ∈ acc ∨ ((p.2, cellObj none) ∈ cellLg n names ∧ (p.1, NameKind.cell) ∈ names)
  | [], n, acc, p, h => .inl h
  | (x, k) :: r, n, acc, p, h => by
    unfold cellsFrom at h
    unfold cellLg
    split at h
    · rename_i c
      rw [if_pos c]
      rcases cellsFrom_mem r h with h | h
      · rcases List.mem_cons.mp h with rfl | h
        · exact .inr ⟨List.mem_append_right _ (.head _), by rw [beq_iff_eq.mp c]; exact .head _⟩
        · exact .inl h
      · exact .inr ⟨List.mem_append_left _ h.1, .tail _ h.2⟩
    · rename_i c
      rw [if_neg c]
      exact (cellsFrom_mem r h).imp id fun h => ⟨h.1, .tail _ h.2⟩
theorem cellsFrom_has : ∀ (names : List (Str × NameKind)) {n : Nat} {acc : List (Str × Addr)} {x : Str}, ((x, NameKind.cell) ∈ names ∨ (acc.lookup x).isSome = true) → ((cellsFrom n names acc).lookup x).isSome = true
  | [], n, acc, x, h => by
    rcases h with h | h
    · cases h
    · exact h
  | (y, k) :: r, n, acc, x, h => by
    unfold cellsFrom
    split
    · refine cellsFrom_has r ?_
      rcases h with h | h
      · rcases List.mem_cons.mp h with e | h
        · cases e; right; simp
        · exact .inl h
      · right
        rw [List.lookup_cons]
        split
        · rfl
        · exact h
    · rename_i c
      refine cellsFrom_has r ?_
      rcases h with h | h
      · rcases List.mem_cons.mp h with e | h
        · cases e; exact absurd rfl c
        · exact .inl h
      · exact .inr h
theorem newEnv_free {scope : Scope} {globals : Addr} {closure : List (Str × Addr)} {qual : Str} {func : Option Addr} {code : Value} {outer : Env} {builtins : Addr} {M : Model} {s : Shared} {Er : Value → Shared → Prop} {Q : Env → Shared → Prop}
    (h : Q (newEnv scope s.heap.objs.size globals (cellsFrom (s.heap.objs.size + 1) scope.names closure) qual func code (some outer) builtins) { s with heap := pushCells (s.heap.push { cls := .type "dict", data := .dict #[] }) scope.names }) :
    wpAny M A (newFunctionEnv scope globals closure [] qual func code (some outer) builtins) Q Er s := by
  unfold newFunctionEnv
  refine wpAny_bind (wpAny_alloc ?_)
  refine wpAny_bind (wpAny_layCells _ (fun name kind cells => ?_) scope.names closure _ _ ?_)
  · rfl
  · have hz : (s.heap.push { cls := .type "dict", data := .dict #[] }).objs.size = s.heap.objs.size + 1 := Heap.size_push ..
    rw [← hz] at h
    exact wpAny_bind (wpAny_pure (wpAny_pure h))
end
end Mine.Internal
end
section
open PySem PySem.W
set_option maxRecDepth 10000
namespace Mine.Internal
noncomputable def closeN (cells : List (Str × Addr)) : List (Str × NameKind) → List (Str × Addr) → List (Str × Addr)
  | [], acc => acc
  | (y, k) :: r, acc => if k == .free then closeN cells r ((y, (cells.lookup y).getD 0) :: acc) else closeN cells r acc
theorem closureFor_eq {scope : Scope} {env : Env} (h : ∀ y, (y, NameKind.free) ∈ scope.names → (env.cells.lookup y).isSome = true) : closureFor scope env = pure (closeN env.cells scope.names []) := by
  have key : ∀ (names : List (Str × NameKind)) (acc : List (Str × Addr)), (∀ y, (y, NameKind.free) ∈ names → (env.cells.lookup y).isSome = true) →
      (forIn (m := Sem) names acc fun x cs => match x with
        | (name, kind) => if kind == .free then do let a ← cellOf env name; pure (ForInStep.yield ((name, a) :: cs)) else pure (ForInStep.yield cs)) = pure (closeN env.cells names acc) := by
    intro names
    induction names with
    | nil => intro acc _; rfl
    | cons p r ih =>
      intro acc h
      obtain ⟨y, kd⟩ := p
      rw [List.forIn_cons]
      have ih' := fun acc => ih acc fun y hy => h y (.tail _ hy)
      unfold closeN
      by_cases c : (kd == NameKind.free) = true
      · simp only [c, if_true]
        have hs := h y (by rw [beq_iff_eq.mp c]; exact .head _)
        obtain ⟨a, ha⟩ := Option.isSome_iff_exists.mp hs
        have : cellOf env y = pure a := by unfold cellOf; rw [ha]
        rw [this, ha]
        exact ih' _
      · simp only [c, if_false]
        exact ih' _
  have := key scope.names [] h
  unfold closureFor
  exact congrArg (fun m : Sem (List (Str × Addr)) => m >>= fun cs => pure cs) this
theorem closeN_mem {cells : List (Str × Addr)} : ∀ (names : List (Str × NameKind)) {acc : List (Str × Addr)} {p : Str × Addr}, p ∈ closeN cells names acc →
    p ∈ acc ∨ ((p.1, NameKind.free) ∈ names ∧ p.2 = (cells.lookup p.1).getD 0)
  | [], acc, p, h => .inl h
  | (x, k) :: r, acc, p, h => by
    unfold closeN at h
    split at h
    · rename_i q
      rcases closeN_mem r h with h | ⟨h1, h2⟩
      · rcases List.mem_cons.mp h with rfl | h
        · exact .inr ⟨by rw [beq_iff_eq.mp q]; exact .head _, rfl⟩
        · exact .inl h
      · exact .inr ⟨.tail _ h1, h2⟩
    · exact (closeN_mem r h).imp id fun h => ⟨.tail _ h.1, h.2⟩
theorem closeN_has {cells : List (Str × Addr)} : ∀ (names : List (Str × NameKind)) {acc : List (Str × Addr)} {y : Str}, ((y, NameKind.free) ∈ names ∨ (acc.lookup y).isSome = true) → ((closeN cells names acc).lookup y).isSome = true
  | [], acc, y, h => by
    rcases h with h | h
    · cases h
    · exact h
  | (x, k) :: r, acc, y, h => by
    unfold closeN
    split
    · refine closeN_has r ?_
      rcases h with h | h
      · rcases List.mem_cons.mp h with e | h
        · cases e; right; simp
        · exact .inl h
      · right
        rw [List.lookup_cons]
        split
        · rfl
        · exact h
    · rename_i c
      refine closeN_has r ?_
      rcases h with h | h
      · rcases List.mem_cons.mp h with e | h
        · cases e; exact absurd rfl c
        · exact .inl h
      · exact .inr h
noncomputable def relK (outer : List (Str × NameKind)) (p : Str × NameKind) : NameKind := if (p.2 == .free && outer.lookup p.1 == some .cell) then .cell else p.2
noncomputable def relN (names outer : List (Str × NameKind)) : List (Str × NameKind) := names.map fun p => (p.1, relK outer p)
noncomputable def innerSc (sc : Sc) (scope : Scope) (x : Str) (i : Nat) : Sc := ⟨relN scope.names sc.names, (x, i) :: sc.vs.filter fun p => p.1 != x && scope.names.lookup p.1 == some .free⟩
noncomputable def chkComp (n : Nat) (sc : Sc) (scope : Scope) (x : Str) (i : Nat) : Bool :=
  scope.kind == .function && (scope.names.all fun p => p.2 != .local || scope.names.lookup p.1 == some .local) && (scope.names.lookup x == some .local || scope.names.lookup x == some .cell) &&
  (scope.names.all fun p => p.2 != .cell || p.1 == x) && (scope.names.all fun p => p.2 != .free || (p.1 != x && (sc.names.lookup p.1 == some .cell || sc.names.lookup p.1 == some .free))) &&
  decide (i < n) && (sc.vs.all fun p => p.2 != i) && !badName x
structure CompOK (n : Nat) (sc : Sc) (scope : Scope) (x : Str) (i : Nat) : Prop where
  kind : scope.kind = .function
  locals : ∀ p ∈ scope.names, p.2 = .local → scope.names.lookup p.1 = some .local
  tgt : scope.names.lookup x = some .local ∨ scope.names.lookup x = some .cell
  cells : ∀ p ∈ scope.names, p.2 = .cell → p.1 = x
  free : ∀ p ∈ scope.names, p.2 = .free → p.1 ≠ x ∧ (sc.names.lookup p.1 = some .cell ∨ sc.names.lookup p.1 = some .free)
  lt : i < n
  slot : ∀ p ∈ sc.vs, p.2 ≠ i
  good : badName x = false
theorem chkComp_of {n : Nat} {sc : Sc} {scope : Scope} {x : Str} {i : Nat} (h : chkComp n sc scope x i = true) : CompOK n sc scope x i := by
  unfold chkComp at h
  simp only [Bool.and_eq_true, Bool.or_eq_true, List.all_eq_true, bne_iff_ne, beq_iff_eq, decide_eq_true_eq, Bool.not_eq_true'] at h
  obtain ⟨⟨⟨⟨⟨⟨⟨h1, h2⟩, h3⟩, h4⟩, h5⟩, h6⟩, h7⟩, h8⟩ := h
  exact ⟨h1, fun p hp e => (h2 p hp).resolve_left fun q => q e, h3, fun p hp e => (h4 p hp).resolve_left fun q => q e, fun p hp e => (h5 p hp).resolve_left fun q => q e, h6, h7, h8⟩
section
variable {cx : Cx} {n : Nat} {kp : KP} {k : Nat} {A : Around} {X Y ST : Lg} {env : Env} {sc : Sc} {ρ : Nat → Option Value} {σ : Sg} {ob : Ob}
theorem mem_of_lookup' {α : Type} : ∀ {l : List (Str × α)} {a : Str} {o : α}, l.lookup a = some o → (a, o) ∈ l
  | (b, x) :: l, a, o, e => by
    rw [List.lookup_cons] at e
    split at e
    · rename_i q; cases e; rw [beq_iff_eq.mp q]; exact .head _
    · exact .tail _ (mem_of_lookup' e)
theorem relN_lookup {outer : List (Str × NameKind)} : ∀ {names : List (Str × NameKind)} {y : Str}, (relN names outer).lookup y = (names.lookup y).map fun k => relK outer (y, k)
  | [], y => rfl
  | (z, k) :: r, y => by
    have ih := relN_lookup (outer := outer) (names := r) (y := y)
    unfold relN at ih ⊢
    rw [List.map_cons, List.lookup_cons, List.lookup_cons]
    by_cases c : y == z
    · simp only [c]
      rw [beq_iff_eq.mp c]; rfl
    · simp only [Bool.not_eq_true] at c
      simp only [c]
      exact ih
theorem cellLg_ge : ∀ (names : List (Str × NameKind)) {n : Nat} {p : Addr × Obj}, p ∈ cellLg n names → n ≤ p.1
  | [], n, p, h => by cases h
  | (_, k) :: r, n, p, h => by
    unfold cellLg at h
    split at h
    · rcases List.mem_append.mp h with h | h
      · exact Nat.le_of_succ_le (cellLg_ge r h)
      · rw [List.mem_singleton.mp h]; exact Nat.le_refl _
    · exact cellLg_ge r h
abbrev innerEnv (scope : Scope) (C : Addr) (cells : List (Str × Addr)) (env : Env) : Env :=
  { newEnv scope C env.globals cells env.qual none .none (some env) builtinsNs with scope := relabel scope env }
theorem comp_env (V : EnvOK A env sc ρ X) {scope : Scope} {x : Str} {i : Nat} (H : CompOK n sc scope x i) {h : Heap} (L : Led cx kp (Y ++ X) h) (m0 : Nat) (hm : h.objs.size ≤ m0) {C : Addr} {oC : Obj} {mC : Str → Option Value} {jC : Nat} (hC : NsObj oC mC jC) :
    EnvOK A (innerEnv scope C (cellsFrom m0 scope.names (closeN env.cells scope.names [])) env) (innerSc sc scope x i) (upd ρ i none) (((C, oC) :: cellLg m0 scope.names) ++ X) ∧
    FrameOK (innerEnv scope C (cellsFrom m0 scope.names (closeN env.cells scope.names [])) env) [x] ((C, oC) :: cellLg m0 scope.names) := by
  have names : (relabel scope env).names = relN scope.names sc.names := by
    unfold relabel relN
    dsimp only
    refine List.map_congr_left fun p _ => ?_
    obtain ⟨y, kd⟩ := p
    dsimp only
    rw [V.kind, env_kind V]
    unfold relK
    dsimp only
    have e : (ScopeKind.function == ScopeKind.function) = true := rfl
    rw [e, Bool.and_true]
    split <;> rfl
  have hcl : ∀ y, (y, NameKind.free) ∈ scope.names → ∃ c, env.cells.lookup y = some c := fun y hy =>
    Option.isSome_iff_exists.mp (V.cells y (H.free _ hy rfl).2)
  have fr : ∀ p, p ∈ cellsFrom m0 scope.names (closeN env.cells scope.names []) → ((p.2, cellObj none) ∈ cellLg m0 scope.names ∧ p.1 = x) ∨ ((p.1, NameKind.free) ∈ scope.names ∧ env.cells.lookup p.1 = some p.2) := by
    intro p e
    rcases cellsFrom_mem _ e with e1 | e1
    · rcases closeN_mem _ e1 with e2 | ⟨e2, e3⟩
      · cases e2
      · obtain ⟨c, hc⟩ := hcl _ e2
        rw [hc] at e3
        exact .inr ⟨e2, by rw [hc, e3]; rfl⟩
    · exact .inl ⟨e1.1, H.cells _ e1.2 rfl⟩
  have new : ∀ c o, (c, o) ∈ cellLg m0 scope.names → ∀ y, ¬ env.cells.lookup y = some c := fun c o hc y e => by
    obtain ⟨oc, hm2⟩ := V.live y c e
    have l1 := L.lt (List.mem_append_right _ hm2)
    have l2 := cellLg_ge _ hc
    dsimp only at l1 l2
    exact absurd l1 (Nat.not_lt.mpr (Nat.le_trans hm l2))
  have has : ∀ y, (y, NameKind.cell) ∈ scope.names ∨ (y, NameKind.free) ∈ scope.names → ((cellsFrom m0 scope.names (closeN env.cells scope.names [])).lookup y).isSome = true := fun y h =>
    cellsFrom_has _ (h.imp id fun h => closeN_has _ (.inl h))
  have kx : ∀ y, (innerEnv scope C (cellsFrom m0 scope.names (closeN env.cells scope.names [])) env).kindOf y = (scope.names.lookup y).map fun k => relK sc.names (y, k) := fun y => by
    show (relabel scope env).names.lookup y = _
    rw [names, relN_lookup]
  refine ⟨⟨H.kind, names, V.glob, V.blt, fun y j v ey ew => ?_, fun y hy => ?_, fun y c e => ?_, fun y z c ey ez => ?_, V.stk.mono fun _ h => List.mem_append_right _ h⟩, ⟨⟨oC, mC, jC, .head _, hC⟩, fun y hy => ?_⟩⟩
  · unfold innerSc at ey
    dsimp only at ey
    rw [List.lookup_cons] at ey
    split at ey
    · rename_i q
      cases ey
      unfold upd at ew
      rw [if_pos rfl] at ew; cases ew
    · rename_i q
      have flt : ∀ (l : List (Str × Nat)), (l.filter fun p => p.1 != x && scope.names.lookup p.1 == some .free).lookup y = some j → l.lookup y = some j ∧ scope.names.lookup y = some .free := by
        intro l
        induction l with
        | nil => intro e; cases e
        | cons p r ih =>
          intro e
          obtain ⟨z, jz⟩ := p
          rw [List.filter_cons] at e
          split at e
          · rename_i c
            rw [List.lookup_cons] at e ⊢
            split at e
            · rename_i d
              cases e
              have d := beq_iff_eq.mp d
              subst d
              simp only [Bool.and_eq_true, beq_iff_eq] at c
              exact ⟨by simp, c.2⟩
            · rename_i d
              exact ih e
          · rename_i c
            obtain ⟨h1, h2⟩ := ih e
            refine ⟨?_, h2⟩
            rw [List.lookup_cons]
            split
            · rename_i d
              have d := beq_iff_eq.mp d
              subst d
              exact absurd (by rw [h2]; simp only [Bool.and_eq_true, bne_iff_ne, ne_eq, beq_self_eq_true, and_true]; exact beq_eq_false_iff_ne.mp q) c
            · exact h1
      obtain ⟨e1, e2⟩ := flt _ ey
      have hji : j ≠ i := H.slot _ (mem_of_lookup' e1)
      unfold upd at ew
      rw [if_neg hji] at ew
      have hfree := H.free _ (mem_of_lookup' e2) rfl
      rcases V.vars y j v e1 ew with ⟨oL, m, jj, a1, _⟩ | ⟨c, oc, a1, a2, a3, a4⟩
      · rw [env_kind V] at a1
        rcases hfree.2 with q | q <;> dsimp only at q <;> rw [q] at a1 <;> cases a1
      · obtain ⟨c', hc'⟩ := Option.isSome_iff_exists.mp (has y (.inr (mem_of_lookup' e2)))
        have : c' = c := by
          rcases fr _ (mem_of_lookup' hc') with ⟨_, q⟩ | ⟨_, q⟩
          · exact absurd q hfree.1
          · dsimp only at q; rw [a2] at q; exact (Option.some.inj q).symm
        subst this
        refine .inr ⟨c', oc, ?_, hc', List.mem_append_right _ a3, a4⟩
        rw [kx, e2]
        unfold relK
        dsimp only [Option.map_some]
        split
        · exact .inl rfl
        · exact .inr rfl
  · have : (y, NameKind.cell) ∈ scope.names ∨ (y, NameKind.free) ∈ scope.names := by
      unfold innerSc at hy
      dsimp only at hy
      rw [relN_lookup] at hy
      cases q : scope.names.lookup y with
      | none => rw [q] at hy; rcases hy with hy | hy <;> cases hy
      | some kd =>
        rw [q] at hy
        unfold relK at hy
        dsimp only [Option.map_some] at hy
        split at hy
        · rename_i c
          simp only [Bool.and_eq_true, beq_iff_eq] at c
          rw [c.1] at q
          exact .inr (mem_of_lookup' q)
        · rcases hy with hy | hy <;> cases hy
          · exact .inl (mem_of_lookup' q)
          · exact .inr (mem_of_lookup' q)
    exact has y this
  · rcases fr _ (mem_of_lookup' e) with ⟨q, _⟩ | ⟨_, q⟩
    · exact ⟨_, List.mem_append_left _ (.tail _ q)⟩
    · obtain ⟨oc, m⟩ := V.live _ _ q
      exact ⟨oc, List.mem_append_right _ m⟩
  · rcases fr _ (mem_of_lookup' ey) with ⟨q1, q2⟩ | ⟨q1, q2⟩ <;> rcases fr _ (mem_of_lookup' ez) with ⟨r1, r2⟩ | ⟨r1, r2⟩
    · exact q2.trans r2.symm
    · exact absurd r2 (new _ _ q1 _)
    · exact absurd q2 (new _ _ r1 _)
    · exact V.apart _ _ _ q2 r2
  · have hy := List.mem_singleton.mp hy
    subst hy
    rcases H.tgt with e | e
    · refine .inl ⟨by rw [kx, e]; rfl, oC, mC, jC, .head _, hC⟩
    · obtain ⟨c, hc⟩ := Option.isSome_iff_exists.mp (has y (.inl (mem_of_lookup' e)))
      refine .inr ⟨by rw [kx, e]; rfl, c, cellObj none, none, hc, ?_, rfl⟩
      rcases fr _ (mem_of_lookup' hc) with ⟨q, _⟩ | ⟨q, _⟩
      · exact .tail _ q
      · exact absurd rfl (H.free _ q rfl).1
end
end Mine.Internal
end
section
open PySem PySem.W
set_option maxRecDepth 10000
namespace Mine.Internal
section
variable {cx : Cx} {n : Nat} {kp : KP} {k : Nat} {A : Around} {X Y ST : Lg} {env : Env} {sc : Sc} {ρ : Nat → Option Value} {σ : Sg} {ob : Ob}
noncomputable abbrev testsM (ifs : List PySem.Expr) (env : Env) : Sem Bool := forIn ifs true fun c r => if r = true then do let ok ← isTrue c env (eval c env); pure (ForInStep.yield ok) else pure (ForInStep.yield r)
theorem sndT_nil : SndC cx n A env sc ρ (testsM [] env) (fun σ => some (true, σ)) := by
  intro X V kp σ ob b σ' s Er Q St e q
  cases e
  exact wpAny_pure (q kp ob s.heap s.toks Sub.refl St)
theorem sndT_one {c : PySem.Expr} {g : Sg → Option (Bool × Sg)} (h : SndC cx n A env sc ρ (isTrue c env (eval c env)) g) : SndC cx n A env sc ρ (testsM [c] env) g := by
  intro X V kp σ ob b σ' s Er Q St e q
  unfold testsM
  rw [List.forIn_cons]
  simp only [if_true]
  refine wpAny_bind (wpAny_bind (h X V kp σ ob b σ' s Er _ St e fun kp1 ob1 h1 tk1 sb1 S1 => wpAny_pure ?_))
  exact wpAny_pure (q kp1 ob1 h1 tk1 sb1 S1)
noncomputable abbrev stepOf (i : Nat) (gt : Sg → Option (Bool × Sg)) (ge : Sg → Option (T × Sg)) (d : D) (σ : Sg) : Option (Option T × Sg) :=
  (gt (σ.set i (some (.frz d)))).bind fun b => if b.1 then (ge b.2).bind fun q => (asD q.1).bind fun x => some (some (.frz x), q.2) else some (none, b.2)
inductive CInv (cx : Cx) (n : Nat) (A : Around) (kp0 : KP) (s0 : Shared) (X : Lg) (cenv : Env) (sc' : Sc) (ρ0 : Nat → Option Value) (x : Str) (i : Nat) (I Dd : Addr) (ds : List D) (St : Nat → Heap → Prop) (step : D → Sg → Option (Option T × Sg)) (res : List T) (σe : Sg) : Nat → Shared → Prop
  | mk {h' : Heap} {tk : Nat} {kp : KP} {σ : Sg} {ob : Ob} {ρ : Nat → Option Value} {oI : Obj} {ST : Lg} {accv : List Value} {md : Nat} {accD rest : List D} {j : Nat} {tl : List T}
    (hj : j + rest.length = ds.length) (hdr : ds.drop j = rest) (sb : Sub kp0 kp) (it : Iter cx A kp I ds St) (st : St j h') (oc : oI.cls ≠ .type "frame") (hρ : ∀ l, l ≠ i → ρ l = ρ0 l)
    (V : EnvOK A cenv sc' ρ (ST ++ X)) (W : FrameOK cenv [x] ST) (S : Ste cx n kp ρ (σ.set i none) ob (ST ++ ((I, oI) :: (Dd, lobj accv md) :: X)) h')
    (rl : RepL cx kp accv accD) (al : accD.length ≤ j) (cl : compLoop step rest σ = some (tl, σe)) (hres : res = accD.map .frz ++ tl) :
    CInv cx n A kp0 s0 X cenv sc' ρ0 x i I Dd ds St step res σe (rest.length + 1) { s0 with heap := h', toks := tk }
theorem Ste.rho0 {ρ1 : Nat → Option Value} {i : Nat} {h : Heap} (S : Ste cx n kp ρ1 (σ.set i none) ob X h) (hρ : ∀ l, l ≠ i → ρ1 l = ρ l) : Ste cx n kp ρ (σ.set i none) ob X h := ⟨S.led, fun l t e => by
  obtain ⟨v, a, b⟩ := S.vars l t e
  refine ⟨v, ?_, b⟩
  by_cases q : l = i
  · rw [q, gv_set, if_pos rfl] at e
    split at e <;> exact nos e
  · rw [← hρ l q]; exact a, S.len⟩
theorem drop_cons {α : Type} {l r : List α} {d : α} {j : Nat} (h : l.drop j = d :: r) : l[j]? = some d ∧ l.drop (j + 1) = r := by
  have h1 : (l.drop j)[0]? = some d := by rw [h]; rfl
  have h2 : (l.drop j).drop 1 = r := by rw [h]; rfl
  rw [List.getElem?_drop] at h1
  rw [List.drop_drop] at h2
  exact ⟨h1, h2⟩
theorem comp_loop (B : Bud k A) {x : Str} {xp pos : Pos} {scope : Scope} {iter elt : PySem.Expr} {ifs : List PySem.Expr} {i : Nat} {ds : List D} {I Dd : Addr} {St : Nat → Heap → Prop} {sc' : Sc} {cenv : Env}
    {gt : Sg → Option (Bool × Sg)} {ge : Sg → Option (T × Sg)} {res : List T} {σe : Sg} {R : Result → Shared → Prop} {s0 s : Shared} {m : Nat}
    (hlen : ds.length ≤ 1000) (hx : sc'.vs.lookup x = some i) (hinj : ∀ y, sc'.vs.lookup y = some i → y = x) (hin : i < n)
    (ht : ∀ ρ', SndC cx n A cenv sc' ρ' (testsM ifs cenv) gt) (he : ∀ ρ', SndM cx n A cenv sc' ρ' (eval elt cenv) ge)
    (fin : ∀ h' tk kp' ob' accv md ST D', Sub kp kp' → FrameOK cenv [x] ST → res = D'.map .frz → RepL cx kp' accv D' → Ste cx n kp' ρ (σe.set i none) ob' (ST ++ ((Dd, lobj accv md) :: X)) h' → R (.ok .next) { s0 with heap := h', toks := tk })
    (inv : CInv cx n A kp s0 X cenv sc' ρ x i I Dd ds St (stepOf i gt ge) res σe m s) :
    codeAny (model cx.prog cx.w) A (.compLoop (.ListComp elt [⟨.Name x xp, iter, ifs, 0⟩] scope pos) 0 (.ref I) (.ref Dd) cenv) R s := by
  refine codeAny_compLoop_tests (CInv cx n A kp s0 X cenv sc' ρ x i I Dd ds St (stepOf i gt ge) res σe) (fun m s' h => ?_) m inv
  cases h with
  | @mk h' tk kp1 σ1 ob1 ρ1 oI ST accv md accD rest j tl hj hdr sb it st oc hρ V W S rl al cl hres =>
  have S0 := S.perm (show (ST ++ ((I, oI) :: (Dd, lobj accv md) :: X)).Perm ((I, oI) :: (ST ++ ((Dd, lobj accv md) :: X))) from List.perm_middle)
  cases rest with
  | nil =>
    have hjj : j = ds.length := hj
    subst hjj
    refine iter_done it st S0 fun h2 tk2 S2 => ?_
    cases cl
    exact fin h2 tk2 kp1 ob1 accv md ST accD sb W (by rw [hres, List.append_nil]) rl (S2.rho0 hρ)
  | cons d rest =>
    obtain ⟨hd, hdr'⟩ := drop_cons hdr
    refine iter_next it st S0 hd fun v oI' h2 tk2 rv st2 oc2 S2 => ?_
    clear S0 S st
    refine wpAny_assign_Name ?_
    have S2' : Ste cx n kp1 ρ1 (σ1.set i none) ob1 (ST ++ ((I, oI') :: (Dd, lobj accv md) :: X)) h2 := S2.perm List.perm_middle.symm
    refine store_sound (ws := [x]) (Z := X) S2' (fun p hp => .tail _ (.tail _ hp)) V W (List.mem_singleton.mpr rfl) hx hinj fun ST3 h3 tk3 S3 V3 W3 => ?_
    have S3' := Ste.put (o := []) S3 hin (show upd ρ1 i (some v) i = some v from if_pos rfl) (of_rep rv)
    rw [List.set_set] at S3'
    have V3' : EnvOK A cenv sc' (upd ρ1 i (some v)) (ST3 ++ ((I, oI') :: (Dd, lobj accv md) :: X)) := V3.mono fun p hp => (List.mem_append.mp hp).elim (List.mem_append_left _) fun h => List.mem_append_right _ (.tail _ (.tail _ h))
    have mI : ∀ {n : Nat} {ob : Ob} {ST : Lg} {y : Addr × Obj}, (I, oI') ∈ fl n ob ++ (ST ++ ((I, oI') :: y :: X)) := List.mem_append_right _ (List.mem_append_right _ (.head _))
    have st3 : St (j + 1) h3 := iter_frame it st2 oc2 S2'.led mI S3'.led mI Sub.refl
    have hρ3 : ∀ l, l ≠ i → upd ρ1 i (some v) l = ρ l := fun l hl => (if_neg hl).trans (hρ l hl)
    refine binv cl fun r e1 cl' => binv cl' fun r2 e2 e3 => binv e1 fun b e4 e5 => ?_
    clear cl cl' e1
    cases e3
    refine ht _ _ V3' kp1 _ _ _ _ _ _ _ S3' e4 fun kp4 ob4 h4 tk4 sb4 S4 => ?_
    have st4 : St (j + 1) h4 := iter_frame it st3 oc2 S3'.led mI S4.led mI sb4
    have hj' : j + 1 + rest.length = ds.length := by rw [← hj, List.length_cons]; lia
    obtain ⟨b, σ4⟩ := b
    cases b with
    | false =>
      cases e5
      exact ⟨rest.length + 1, Nat.lt_succ_self _, .mk hj' hdr' (sb.trans sb4) (it.sub sb4) st4 oc2 hρ3 V3 W3 S4.forget (RepL.le sb4.le rl) (Nat.le_succ_of_le al) e2 hres⟩
    | true =>
      refine binv e5 fun r6 e6 e5' => binv e5' fun y e7 ee => ?_
      clear e5 e5'
      cases ee
      refine he _ _ V3' kp4 _ _ _ _ _ _ _ S4 e6 fun w kp5 ob5 o5 h5 tk5 sb5 w5 S5 => ?_
      rw [asD_inv e7] at w5
      rw [w5.1, List.nil_append] at S5
      have st5 : St (j + 1) h5 := iter_frame (it.sub sb4) st4 oc2 S4.led mI S5.led mI sb5
      have len := rl.length
      have gD : h5.get? Dd = some (lobj accv md) := S5.led.get (List.mem_append_right _ (List.mem_append_right _ (.tail _ (.head _)))) lst_nf
      refine wpAny_list_append_plain (items := accv.toArray) ⟨md, gD⟩ (fun h6 hl hs => ?_) (by simp only [List.size_toArray, sizeLine_eq]; lia)
      obtain ⟨md6, g6⟩ := hl
      have S5' : Ste cx n kp5 (upd ρ1 i (some v)) r6.2 ob5 ((Dd, lobj accv md) :: (ST3 ++ ((I, oI') :: X))) h5 := S5.perm (by exact PE.perm [_, _] [_, _] (.p (.a 0) (.c 1 (.c 0 (.a 1)))) (.c 0 (.p (.a 0) (.c 1 (.a 1)))) rfl)
      have S6 : Ste cx n kp5 (upd ρ1 i (some v)) r6.2 ob5 (ST3 ++ ((I, oI') :: (Dd, lobj (accv ++ [w]) md6) :: X)) h6 := (S5'.setX (o' := lobj (accv ++ [w]) md6) hs (by rw [g6]; simp)).perm (by exact PE.perm [_, _] [_, _] (.c 1 (.p (.a 0) (.c 0 (.a 1)))) (.p (.a 0) (.c 0 (.c 1 (.a 1)))) rfl)
      have st6 : St (j + 1) h6 := iter_frame ((it.sub sb4).sub sb5) st5 oc2 S5.led mI S6.led mI Sub.refl
      exact ⟨rest.length + 1, Nat.lt_succ_self _, .mk hj' hdr' (sb.trans (sb4.trans sb5)) ((it.sub sb4).sub sb5) st6 oc2 hρ3 V3 W3 S6.forget (repL_append (b := [y]) (RepL.le sb5.le (RepL.le sb4.le rl)) ⟨w, [], rfl, w5.2, rfl⟩) (by rw [List.length_append]; exact Nat.succ_le_succ al) e2
        (by rw [hres, List.map_append, List.append_assoc]; rfl)⟩
end
end Mine.Internal
end
section
open PySem PySem.W
set_option maxRecDepth 10000
namespace Mine.Internal
section
variable {cx : Cx} {n : Nat} {kp : KP} {k : Nat} {A : Around} {X Y ST : Lg} {env : Env} {sc : Sc} {ρ : Nat → Option Value} {σ : Sg} {ob : Ob}
noncomputable abbrev gComp (i : Nat) (gi : Sg → Option (List D × Sg)) (step : D → Sg → Option (Option T × Sg)) : Sg → Option (T × Sg) :=
  fun σ => (gi σ).bind fun r => if 1000 < r.1.length then none else (compLoop step r.1 r.2).bind fun q => some (.olist q.1, q.2.set i none)
theorem foldedSet_plain {e : PySem.Expr} (h : notSet e = true) (x : Value) : foldedSetIterable e env x = pure x := by
  cases e <;> first | rfl | cases h
theorem comp_sound (B : Bud k A) {x : Str} {xp pos fpos : Pos} {scope : Scope} {iter elt : PySem.Expr} {ifs : List PySem.Expr} {i : Nat} {use : Option (Value → Sem Unit)}
    {gi : Sg → Option (List D × Sg)} {gt : Sg → Option (Bool × Sg)} {ge : Sg → Option (T × Sg)} (C : CompOK n sc scope x i) (hs : notSet iter = true)
    (hi : SndI cx n A env sc ρ (eval iter env) gi)
    (ht : ∀ cenv ρ', SndC cx n A cenv (innerSc sc scope x i) ρ' (testsM ifs cenv) gt) (he : ∀ cenv ρ', SndM cx n A cenv (innerSc sc scope x i) ρ' (eval elt cenv) ge)
    {kp : KP} {σ σ' : Sg} {ob : Ob} {s : Shared} {t : T} {Er Q : Value → Shared → Prop} (V : EnvOK A env sc ρ X) (St : Ste cx n kp ρ σ ob X s.heap) (e : gComp i gi (stepOf i gt ge) σ = some (t, σ'))
    (fin : ∀ h' tk kp' ob' a o Ca oC m j, Sub kp kp' → Own cx kp' (.ref a) t o → NsObj oC m j → Ste cx n kp' ρ σ' ob' (o ++ ((Ca, oC) :: X)) h' → compPost (model cx.prog cx.w) A Er use Q (.ref a) Ca (.ok .next) { s with heap := h', toks := tk }) :
    wpAny (model cx.prog cx.w) A (comprehension (.ListComp elt [⟨.Name x xp, iter, ifs, 0⟩] scope pos) scope env fpos (newList []) false (eval iter env) use) Q Er s := by
  refine binv e fun r e1 e' => ?_
  obtain ⟨ds, σ1⟩ := r
  refine ifn e' fun hlen e'' => binv e'' fun r2 e2 ee => ?_
  clear e e' e''
  obtain ⟨res, σe⟩ := r2
  cases ee
  · have hm0 : True := trivial
    clear hm0
    refine wpAny_comprehension_free rfl (fun x => foldedSet_plain hs x) (closureFor_eq fun y hy => V.cells y (C.free _ hy rfl).2) C.kind C.locals ?_
    refine hi X V kp σ ob _ _ s Er _ St e1 fun v kp1 ob1 o1 h1 tk1 sb1 w1 S1 => ?_
    refine iter_start B S1 w1 fun I oI It h2 tk2 it st oc S2 => ?_
    refine wpAny_newList ?_ (by simp)
    have S3 := S2.push (o := lobj [] 0) rfl
    refine newEnv_free ?_
    have S4 := S3.push (o := { cls := .type "dict", data := .dict #[] }) rfl
    have S5 := S4.cells scope.names
    have hm0 : ((h2.push (lobj [] 0)).push { cls := .type "dict", data := .dict #[] }).objs.size = (h2.push (lobj [] 0)).objs.size + 1 := Heap.size_push ..
    have hns : NsObj { cls := .type "dict", data := .dict #[] } (fun _ => none) 0 := ⟨#[], _, rfl, fun e he => absurd he (Array.not_mem_empty e), Nat.le_refl _, fun x => rfl⟩
    have L4 := S4.led
    rw [show ∀ (a b c : Addr × Obj), fl n ob1 ++ (a :: b :: c :: X) = (fl n ob1 ++ [a, b, c]) ++ X from fun a b c => by simp] at L4
    obtain ⟨V5, W5⟩ := comp_env V C L4 _ (Nat.le_refl _) (C := (h2.push (lobj [] 0)).objs.size) hns
    rw [hm0] at V5 W5
    have st5 : It 0 (pushCells ((h2.push (lobj [] 0)).push { cls := .type "dict", data := .dict #[] }) scope.names) := iter_frame it st oc S2.led (by simp) S5.led (by simp) Sub.refl
    have loop : ∀ s4 : Shared, s4 = { s with heap := pushCells ((h2.push (lobj [] 0)).push { cls := .type "dict", data := .dict #[] }) scope.names, toks := tk2 } →
        codeAny (model cx.prog cx.w) A (.compLoop (.ListComp elt [⟨.Name x xp, iter, ifs, 0⟩] scope pos) 0 (.ref I) (.ref h2.objs.size) (innerEnv scope (h2.push (lobj [] 0)).objs.size (cellsFrom ((h2.push (lobj [] 0)).objs.size + 1) scope.names (closeN env.cells scope.names [])) env))
          (compPost (model cx.prog cx.w) A Er use Q (.ref h2.objs.size) (h2.push (lobj [] 0)).objs.size) s4 := by
      rintro s4 rfl
      have hinj : ∀ y, (innerSc sc scope x i).vs.lookup y = some i → y = x := fun y e => by
        unfold innerSc at e
        dsimp only at e
        rw [List.lookup_cons] at e
        split at e
        · rename_i q; exact beq_iff_eq.mp q
        · have := mem_of_lookup' e
          exact absurd rfl (C.slot _ (List.mem_filter.mp this).1)
      refine comp_loop (sc' := innerSc sc scope x i) (kp := kp1) (ds := ds) (St := It) (gt := gt) (ge := ge) (res := res) (σe := σe) (s0 := s) (X := X) (ρ := ρ) (i := i) (m := ds.length + 1) B (Nat.not_lt.mp hlen) (by simp [innerSc]) hinj C.lt (ht _) (he _) ?_ ?_
      · intro h' tk kp' ob' accv md ST D' sb W hres rl S
        obtain ⟨oL, m, j, hm, hn⟩ := W.loc
        obtain ⟨pre, post, rfl⟩ := List.append_of_mem hm
        subst hres
        refine fin h' tk kp' ob' _ [_] _ oL m j (sb1.trans sb) (own_list (m := md) rl) hn ?_
        refine Ste.dropX (X := pre ++ post) (S.perm ?_)
        show ((pre ++ ((h2.push (lobj [] 0)).objs.size, oL) :: post) ++ ((h2.objs.size, lobj accv md) :: X)).Perm ((pre ++ post) ++ ([(h2.objs.size, lobj accv md)] ++ (((h2.push (lobj [] 0)).objs.size, oL) :: X)))
        exact PE.perm [_, _, _] [_, _] (.p (.p (.a 0) (.c 0 (.a 1))) (.c 1 (.a 2))) (.p (.p (.a 0) (.a 1)) (.p (.c 1 .n) (.c 0 (.a 2)))) rfl
      · refine .mk (j := 0) (accD := []) (ob := ob1) (md := 0) (ρ := upd ρ i none) (Nat.zero_add _) rfl Sub.refl it st5 oc (fun l hl => if_neg hl) V5 W5 ?_ rfl (Nat.le_refl _) e2 rfl
        refine (S5.perm ?_).forget.rho
        rw [hm0]
        exact PE.perm [_, _] [_, _, _] (.p (.a 0) (.c 2 (.c 1 (.c 0 (.a 1))))) (.p (.c 2 (.a 0)) (.c 0 (.c 1 (.a 1)))) rfl
    obtain ⟨fp, P, Wk, _⟩ := it.ex
    exact codeAny_compStart_list (loop _ rfl) (Wk.self 0 _ _ _ st5 (loop _ rfl))
theorem snd_comp (B : Bud k A) {x : Str} {xp pos : Pos} {scope : Scope} {iter elt : PySem.Expr} {ifs : List PySem.Expr} {i : Nat}
    {gi : Sg → Option (List D × Sg)} {gt : Sg → Option (Bool × Sg)} {ge : Sg → Option (T × Sg)} (C : CompOK n sc scope x i) (hs : notSet iter = true)
    (hi : SndI cx n A env sc ρ (eval iter env) gi)
    (ht : ∀ cenv ρ', SndC cx n A cenv (innerSc sc scope x i) ρ' (testsM ifs cenv) gt) (he : ∀ cenv ρ', SndM cx n A cenv (innerSc sc scope x i) ρ' (eval elt cenv) ge) :
    SndM cx n A env sc ρ (eval (.ListComp elt [⟨.Name x xp, iter, ifs, 0⟩] scope pos) env) (gComp i gi (stepOf i gt ge)) := by
  intro X V kp σ ob t σ' s Er Q St e q
  rw [eval_ListComp]
  refine comp_sound B C hs hi ht he V St e fun h' tk kp' ob' a o Ca oC m j sb w hn S => ?_
  have g := S.led.data (List.mem_append_right _ (List.mem_append_right _ (.head _)))
  obtain ⟨o', g1, _, g2, _⟩ := g
  refine ⟨m, ?_, fun h2 hs2 => ?_⟩
  · obtain ⟨es, ep, d, r⟩ := hn
    exact ns_of g1 (j := j) ⟨es, ep, g2.trans d, r⟩
  · refine q _ kp' ob' o h2 tk sb w ?_
    exact Ste.cut (a := Ca) (o := oC) (S.perm (by exact PE.perm [_, _] [_] (.p (.a 0) (.c 0 (.a 1))) (.c 0 (.p (.a 0) (.a 1))) rfl)) (fun b ob hb e => hs2.extBut b ob hb e)
theorem list_upd {h : Heap} {a : Addr} {vs : List Value} {m : Nat} (f : Array Value → Array Value) (e : h.get? a = some (lobj vs m)) :
    Heap.SameBut a h (h.update a (Obj.mapSeq f)) ∧ ∃ m', (h.update a (Obj.mapSeq f)).get? a = some (lobj (f vs.toArray).toList m') := by
  refine ⟨Heap.SameBut.update h a _, ?_⟩
  rw [Heap.get?_update_self _ e rfl]
  refine ⟨if (f vs.toArray).size == vs.toArray.size then m else m + 1, ?_⟩
  show some (Obj.mapSeq f _) = _
  unfold Obj.mapSeq
  simp [lobj]
theorem ownL_split : ∀ {a b : List T} {vs : List Value} {o : Lg}, OwnL cx kp vs (a ++ b) o → ∃ v1 v2 o1 o2, vs = v1 ++ v2 ∧ o = o1 ++ o2 ∧ OwnL cx kp v1 a o1 ∧ OwnL cx kp v2 b o2
  | [], b, vs, o, w => ⟨[], vs, [], o, rfl, rfl, ⟨rfl, rfl⟩, w⟩
  | t :: a, b, vs, o, w => by
    obtain ⟨v, r, o1, o2, e1, e2, w1, w2⟩ := w
    obtain ⟨v1, v2, p1, p2, e3, e4, w3, w4⟩ := ownL_split w2
    exact ⟨v :: v1, v2, o1 ++ p1, p2, by rw [e1, e3]; rfl, by rw [e2, e4, List.append_assoc], ⟨v, v1, o1, p1, rfl, rfl, w1, w3⟩, w4⟩
theorem ownL_join : ∀ {a b : List T} {v1 v2 : List Value} {o1 o2 : Lg}, OwnL cx kp v1 a o1 → OwnL cx kp v2 b o2 → OwnL cx kp (v1 ++ v2) (a ++ b) (o1 ++ o2)
  | [], b, v1, v2, o1, o2, w, w' => by rw [w.1, w.2]; exact w'
  | t :: a, b, v1, v2, o1, o2, w, w' => by
    obtain ⟨v, r, p1, p2, e1, e2, w1, w2⟩ := w
    exact ⟨v, r ++ v2, p1, p2 ++ o2, by rw [e1]; rfl, by rw [e2, List.append_assoc], w1, ownL_join w2 w'⟩
theorem meth0 {v : PySem.Expr} {m : Str} {apos pos : Pos} {s : Shared} {Er Q : Value → Shared → Prop} (hb : noSuper v = true) (hl : (apos.endLine == pos.line) = true)
    (h : wpAny (model cx.prog cx.w) A (eval v env) (fun ov s₁ => MethodOn cx.prog cx.w A m pos ov [] Q Er s₁) Er s) :
    wpAny (model cx.prog cx.w) A (eval (.Call (.Attribute v m apos) [] [] pos) env) Q Er s := wpAny_Call_method0_late (attrBase_plain hb) hl h
theorem snd_pop {x : Str} {i : Nat} {xp apos pos : Pos} (hx : sc.vs.lookup x = some i) (hb : badName x = false) (hl : (apos.endLine == pos.line) = true) :
    SndM cx n A env sc ρ (eval (.Call (.Attribute (.Name x xp) "pop" apos) [] [] pos) env) (fun σ => (gv σ i).bind fun t => (asOl t).bind fun ts => if ts.length ≤ 1000 then (ts.getLast?).bind fun x => some (x, σ.set i (some (.olist ts.dropLast))) else none) := by
  intro X V kp σ ob t σ' s Er Q St e q
  refine binv e fun t0 e1 e' => binv e' fun ts e2 e'' => ifv e'' fun hlen f => binv f fun u e3 ee => ?_
  clear e e' e'' f
  cases ee
  obtain ⟨v, r, w, S2⟩ := St.take e1
  have hi : i < n := St.len ▸ gv_lt e1
  obtain ⟨l, hts⟩ := List.getLast?_eq_some_iff.mp e3
  have hdl : ts.dropLast = l := by rw [hts, List.dropLast_concat]
  rw [asOl_inv e2] at w
  obtain ⟨a, vs, m, rr, rfl, ho, w⟩ := w
  rw [ho] at S2
  have ga : s.heap.get? a = some (lobj vs m) := S2.led.get (List.mem_append_right _ (.head _)) lst_nf
  refine meth0 rfl hl (name_sound St.led V (badName_of hb).1 (badName_of hb).2 hx r ?_)
  have lenv := ownL_length w
  rw [hts] at w
  obtain ⟨v1, v2, o1, o2, rfl, e4, w1, y, _, p1, p2, rfl, e5, w3, rfl, e6⟩ := ownL_split w
  rw [e4, e5, e6] at S2
  refine ⟨"list", "list.pop", F.plainAttrs_list, F.slot_list_pop, F.type_list_pop, ⟨_, ga, rfl⟩, fun b e => by cases e; exact ⟨_, ga, rfl⟩, ?_⟩
  refine P.pop_list (items := (v1 ++ [y]).toArray) ga (y := y) (by simp) ?_ (by simp only [List.size_toArray, sizeLine_eq]; lia)
  obtain ⟨hsb, m', g'⟩ := list_upd (fun xs => xs.eraseIdxIfInBounds ((v1 ++ [y]).toArray.size - 1)) ga
  have el : ((v1 ++ [y]).toArray.eraseIdxIfInBounds ((v1 ++ [y]).toArray.size - 1)).toList = v1 := by
    simp only [Array.eraseIdxIfInBounds, List.size_toArray, List.length_append, List.length_cons, List.length_nil]
    rw [dif_pos (by lia)]
    simp [List.eraseIdx_append_of_length_le]
  rw [el] at g'
  have S3 := Ste.setX (o' := lobj v1 m') (S2.perm (show ((a, lobj (v1 ++ [y]) m) :: (o1 ++ (p1 ++ [])) ++ X).Perm ((a, lobj (v1 ++ [y]) m) :: ((o1 ++ p1) ++ X)) by exact PE.perm [_, _, _] [_] (.p (.c 0 (.p (.a 0) (.p (.a 1) .n))) (.a 2)) (.c 0 (.p (.p (.a 0) (.a 1)) (.a 2))) rfl)) hsb g'
  have S4 : Ste cx n kp ρ ((σ.set i none).set i (some (.olist ts.dropLast))) (oset (oset ob i []) i ((a, lobj v1 m') :: o1)) (p1 ++ X) _ := Ste.put (S3.perm (show ((a, lobj v1 m') :: ((o1 ++ p1) ++ X)).Perm (((a, lobj v1 m') :: o1) ++ (p1 ++ X)) by exact PE.perm [_, _, _] [_] (.c 0 (.p (.p (.a 0) (.a 1)) (.a 2))) (.p (.c 0 (.a 0)) (.p (.a 1) (.a 2))) rfl)) hi r ⟨a, v1, m', o1, rfl, rfl, hdl ▸ w1⟩
  rw [List.set_set] at S4
  exact q y kp _ p1 _ s.toks Sub.refl w3 S4
end
end Mine.Internal
end
section
open PySem PySem.W
set_option maxRecDepth 10000
namespace Mine.Internal
noncomputable def xBool (a : PySem.Expr) : Option {q : BoolOp × List PySem.Expr × Pos // a = .BoolOp q.1 q.2.1 q.2.2} := if h : a.ctorIdx = 0 then PySem.Expr.BoolOp.elim a h fun o as p => some ⟨(o, as, p), rfl⟩ else none
noncomputable def xIf (a : PySem.Expr) : Option {q : PySem.Expr × PySem.Expr × PySem.Expr × Pos // a = .IfExp q.1 q.2.1 q.2.2.1 q.2.2.2} := if h : a.ctorIdx = 5 then PySem.Expr.IfExp.elim a h fun t x y p => some ⟨(t, x, y, p), rfl⟩ else none
noncomputable def xTup (a : PySem.Expr) : Option {q : List PySem.Expr × Nat × Pos // a = .Tuple q.1 q.2.1 q.2.2} := if h : a.ctorIdx = 25 then PySem.Expr.Tuple.elim a h fun as k p => some ⟨(as, k, p), rfl⟩ else none
noncomputable def xList (a : PySem.Expr) : Option {q : List PySem.Expr × Pos // a = .List q.1 q.2} := if h : a.ctorIdx = 24 then PySem.Expr.List.elim a h fun as p => some ⟨(as, p), rfl⟩ else none
noncomputable def xDict (a : PySem.Expr) : Option {q : List (Option PySem.Expr) × List PySem.Expr × Pos // a = .Dict q.1 q.2.1 q.2.2} := if h : a.ctorIdx = 6 then PySem.Expr.Dict.elim a h fun ks as p => some ⟨(ks, as, p), rfl⟩ else none
noncomputable def xSl (a : PySem.Expr) : Option {q : PySem.Expr × Pos // a = .Slice none (some q.1) none q.2} := if h : a.ctorIdx = 26 then PySem.Expr.Slice.elim a h fun z0 z1 z2 sp => (match z0, z1, z2 with
    | none, some u, none => some ⟨(u, sp), rfl⟩
    | _, _, _ => none) else none
noncomputable def xNil (a : PySem.Expr) : Option {q : Pos // a = .List [] q} := if h : a.ctorIdx = 24 then PySem.Expr.List.elim a h fun z p => (match z with
    | [] => some ⟨p, rfl⟩
    | _ => none) else none
noncomputable def xCallr (a : PySem.Expr) : Option {q : PySem.Expr × Str × Pos × List PySem.Expr × Pos // a = .Call q.1 (.Name q.2.1 q.2.2.1 :: q.2.2.2.1) [] q.2.2.2.2} := if h : a.ctorIdx = 16 then PySem.Expr.Call.elim a h fun f z1 z2 p => (match z1, z2 with
    | e :: as, [] => (xName e).bind fun q => some ⟨(f, q.1.1, q.1.2, as, p), congrArg (fun e => PySem.Expr.Call f (e :: as) [] p) q.2⟩
    | _, _ => none) else none
noncomputable def xSlice (a : PySem.Expr) : Option {q : PySem.Expr × PySem.Expr × Pos × Pos // a = .Subscript q.1 (.Slice none (some q.2.1) none q.2.2.1) q.2.2.2} := if h : a.ctorIdx = 21 then PySem.Expr.Subscript.elim a h fun v e p => (xSl e).bind fun q => some ⟨(v, q.1.1, q.1.2, p), congrArg (fun e => PySem.Expr.Subscript v e p) q.2⟩ else none
noncomputable def xMeth0 (a : PySem.Expr) : Option {q : Str × Pos × Str × Pos × Pos // a = .Call (.Attribute (.Name q.1 q.2.1) q.2.2.1 q.2.2.2.1) [] [] q.2.2.2.2} := if h : a.ctorIdx = 16 then PySem.Expr.Call.elim a h fun f z1 z2 p => (match z1, z2 with
    | [], [] => (xAttr f).bind fun q => (xName q.1.1).bind fun r => some ⟨(r.1.1, r.1.2, q.1.2.1, q.1.2.2, p), congrArg (fun e => PySem.Expr.Call e [] [] p) (q.2.trans (congrArg (fun e => PySem.Expr.Attribute e q.1.2.1 q.1.2.2) r.2))⟩
    | _, _ => none) else none
noncomputable def xComp (a : PySem.Expr) : Option {q : PySem.Expr × Str × Pos × PySem.Expr × List PySem.Expr × Scope × Pos // a = .ListComp q.1 [⟨.Name q.2.1 q.2.2.1, q.2.2.2.1, q.2.2.2.2.1, 0⟩] q.2.2.2.2.2.1 q.2.2.2.2.2.2} := if h : a.ctorIdx = 8 then PySem.Expr.ListComp.elim a h fun el z1 sc p => (match z1 with
    | [⟨e, it, ifs, 0⟩] => (xName e).bind fun q => some ⟨(el, q.1.1, q.1.2, it, ifs, sc, p), congrArg (fun e => PySem.Expr.ListComp el [⟨e, it, ifs, 0⟩] sc p) q.2⟩
    | _ => none) else none
noncomputable def xNe (a : PySem.Expr) : Option {q : Str × Pos × Pos × Pos // a = .Compare (.Name q.1 q.2.1) [.NotEq] [.List [] q.2.2.1] q.2.2.2} := if h : a.ctorIdx = 15 then PySem.Expr.Compare.elim a h fun l z1 z2 p => (match z1, z2 with
    | [.NotEq], [r] => (xName l).bind fun q => (xNil r).bind fun w => some ⟨(q.1.1, q.1.2, w.1, p), (congrArg (fun e => PySem.Expr.Compare e [.NotEq] [r] p) q.2).trans (congrArg (fun r => PySem.Expr.Compare (.Name q.1.1 q.1.2) [.NotEq] [r] p) w.2)⟩
    | _, _ => none) else none
section
variable {P : PySem.Expr → Prop} {a : PySem.Expr}
@[elab_as_elim] theorem boolE {f : BoolOp × List PySem.Expr × Pos → Bool} (h : tst (xBool a) f = true) (k : ∀ o as p, f (o, as, p) = true → P (.BoolOp o as p)) : P a := xE (P := P) h fun q h => k q.1 q.2.1 q.2.2 h
@[elab_as_elim] theorem ifE {f : PySem.Expr × PySem.Expr × PySem.Expr × Pos → Bool} (h : tst (xIf a) f = true) (k : ∀ t x y p, f (t, x, y, p) = true → P (.IfExp t x y p)) : P a := xE (P := P) h fun q h => k q.1 q.2.1 q.2.2.1 q.2.2.2 h
@[elab_as_elim] theorem tupE {f : List PySem.Expr × Nat × Pos → Bool} (h : tst (xTup a) f = true) (k : ∀ as k p, f (as, k, p) = true → P (.Tuple as k p)) : P a := xE (P := P) h fun q h => k q.1 q.2.1 q.2.2 h
@[elab_as_elim] theorem listE {f : List PySem.Expr × Pos → Bool} (h : tst (xList a) f = true) (k : ∀ as p, f (as, p) = true → P (.List as p)) : P a := xE (P := P) h fun q h => k q.1 q.2 h
@[elab_as_elim] theorem dictE {f : List (Option PySem.Expr) × List PySem.Expr × Pos → Bool} (h : tst (xDict a) f = true) (k : ∀ ks as p, f (ks, as, p) = true → P (.Dict ks as p)) : P a := xE (P := P) h fun q h => k q.1 q.2.1 q.2.2 h
@[elab_as_elim] theorem callrE {f : PySem.Expr × Str × Pos × List PySem.Expr × Pos → Bool} (h : tst (xCallr a) f = true) (k : ∀ c x xp as p, f (c, x, xp, as, p) = true → P (.Call c (.Name x xp :: as) [] p)) : P a := xE (P := P) h fun q h => k q.1 q.2.1 q.2.2.1 q.2.2.2.1 q.2.2.2.2 h
@[elab_as_elim] theorem sliceE {f : PySem.Expr × PySem.Expr × Pos × Pos → Bool} (h : tst (xSlice a) f = true) (k : ∀ v u sp p, f (v, u, sp, p) = true → P (.Subscript v (.Slice none (some u) none sp) p)) : P a := xE (P := P) h fun q h => k q.1 q.2.1 q.2.2.1 q.2.2.2 h
@[elab_as_elim] theorem meth0E {f : Str × Pos × Str × Pos × Pos → Bool} (h : tst (xMeth0 a) f = true) (k : ∀ x xp m ap p, f (x, xp, m, ap, p) = true → P (.Call (.Attribute (.Name x xp) m ap) [] [] p)) : P a := xE (P := P) h fun q h => k q.1 q.2.1 q.2.2.1 q.2.2.2.1 q.2.2.2.2 h
@[elab_as_elim] theorem compE {f : PySem.Expr × Str × Pos × PySem.Expr × List PySem.Expr × Scope × Pos → Bool} (h : tst (xComp a) f = true) (k : ∀ el x xp it ifs sc p, f (el, x, xp, it, ifs, sc, p) = true → P (.ListComp el [⟨.Name x xp, it, ifs, 0⟩] sc p)) : P a := xE (P := P) h fun q h => k q.1 q.2.1 q.2.2.1 q.2.2.2.1 q.2.2.2.2.1 q.2.2.2.2.2.1 q.2.2.2.2.2.2 h
@[elab_as_elim] theorem neE {f : Str × Pos × Pos × Pos → Bool} (h : tst (xNe a) f = true) (k : ∀ x xp lp p, f (x, xp, lp, p) = true → P (.Compare (.Name x xp) [.NotEq] [.List [] lp] p)) : P a := xE (P := P) h fun q h => k q.1 q.2.1 q.2.2.1 q.2.2.2 h
end
noncomputable def oneB {α : Type} (f : α → Bool) : List α → Bool
  | [] => false
  | a :: l => nil? l && f a
theorem oneB_inv {α : Type} {f : α → Bool} {l : List α} (h : oneB f l = true) : ∃ a, l = [a] ∧ f a = true := by
  cases l with
  | nil => exact fot h
  | cons a l => rw [nil_inv (and1 h)]; exact ⟨a, rfl, and2 h⟩
noncomputable def bopOf (isAnd : Bool) : BoolOp := if isAnd then .And else .Or
mutual
noncomputable def chkE (n : Nat) (sc : Sc) : E → PySem.Expr → Bool
  | .pu p, a => chkP sc p a
  | .var i, a => tst (xName a) fun q => isVar sc i q.1
  | .mov i, a => tst (xName a) fun q => isVar sc i q.1
  | .frz e, a => chkE n sc e a
  | .op o es, a => !lateOp o && kids sc o a (chkEs n sc es)
  | .bop isAnd es, a => tst (xBool a) fun q => (q.1 == bopOf isAnd) && (!nil? es && chkEs n sc es q.2.1)
  | .ite c e1 e2, a => tst (xIf a) fun q => chkC n sc c q.1 && (chkE n sc e1 q.2.1 && chkE n sc e2 q.2.2.1)
  | .tup es, a => tst (xTup a) fun q => noStars q.1 && decide (es.length ≤ 1000) && chkEs n sc es q.1
  | .list es, a => tst (xList a) fun q => noStars q.1 && decide (es.length ≤ 1000) && chkEs n sc es q.1
  | .dict kvs, a => tst (xDict a) fun q => decide (0 < kvs.length) && decide (kvs.length ≤ 15) && decide ((kvs.map (·.1)).Nodup) && decide ("shared" ∉ kvs.map (·.1)) && chkK n sc kvs q.1 q.2.1
  | .idict, a => tst (xDict a) fun q => nil? q.1 && nil? q.2.1
  | .call f es, a => tst (xCall a) fun q => isFn sc q.1 f && noStars q.2.1 && chkEs n sc es q.2.1
  | .callr f i es, a => tst (xCallr a) fun q => isFn sc q.1 f && inout.contains f && isVar sc i q.2.1 && noStars q.2.2.2.1 && chkEs n sc es q.2.2.2.1
  | .new c es, a => tst (xCall a) fun q => isCls sc q.1 c && noStars q.2.1 && chkEs n sc es q.2.1
  | .cat e1 e2, a => tst (xBin a) fun q => (q.2.1 == .Add) && chkE n sc e1 q.1 && chkE n sc e2 q.2.2.1
  | .rep e1 e2, a => tst (xBin a) fun q => (q.2.1 == .Mult) && chkE n sc e1 q.1 && chkE n sc e2 q.2.2.1
  | .slice e1 e2, a => tst (xSlice a) fun q => chkE n sc e1 q.1 && chkE n sc e2 q.2.1
  | .lcopy it, a => tst (xCall1 a) fun q => isBi sc q.1 "list" && noStar q.2.1 && chkI n sc it q.2.1
  | .lcopyP p, a => tst (xCall1 a) fun q => isBi sc q.1 "list" && noStar q.2.1 && chkP sc p q.2.1
  | .dcopy e, a => tst (xCall1 a) fun q => isBi sc q.1 "dict" && noStar q.2.1 && chkE n sc e q.2.1
  | .pop i, a => tst (xMeth0 a) fun q => (q.2.2.1 == ("pop" : Str)) && isVar sc i q.1 && q.2.2.2.1.endLine == q.2.2.2.2.line
  | .comp i it none elt, a => tst (xComp a) fun q => nil? q.2.2.2.2.1 && chkComp n sc q.2.2.2.2.2.1 q.2.1 i && notSet q.2.2.2.1 && chkI n sc it q.2.2.2.1 && chkE n (innerSc sc q.2.2.2.2.2.1 q.2.1 i) elt q.1
  | .comp i it (some c) elt, a => tst (xComp a) fun q => oneB (fun ca => chkC n (innerSc sc q.2.2.2.2.2.1 q.2.1 i) c ca) q.2.2.2.2.1 && chkComp n sc q.2.2.2.2.2.1 q.2.1 i && notSet q.2.2.2.1 && chkI n sc it q.2.2.2.1 && chkE n (innerSc sc q.2.2.2.2.2.1 q.2.1 i) elt q.1
  | .fail, _ => true
noncomputable def chkEs (n : Nat) (sc : Sc) : List E → List PySem.Expr → Bool
  | [], as => nil? as
  | e :: es, as => match as with
    | [] => false
    | a :: as => chkE n sc e a && chkEs n sc es as
noncomputable def chkK (n : Nat) (sc : Sc) : List (String × E) → List (Option PySem.Expr) → List PySem.Expr → Bool
  | [], ks, as => nil? ks && nil? as
  | (nm, e) :: es, ks, as => match ks with
    | [] => false
    | k :: ks => match as with
      | [] => false
      | a :: as => (k.any fun k => tst (xConst k) fun q => match q.1 with | .str s => s == Str.ofString nm | _ => false) && chkE n sc e a && chkK n sc es ks as
noncomputable def chkC (n : Nat) (sc : Sc) : C → PySem.Expr → Bool
  | .e e, a => plainTruth a && chkE n sc e a
  | .not c, a => tst (xUn a) fun q => (q.1 == .Not) && chkC n sc c q.2.1
  | .bop isAnd cs, a => tst (xBool a) fun q => (q.1 == bopOf isAnd) && chkCs n sc cs q.2.1
  | .cmp o e1 e2, a => tst (xCmp a) fun q => (cmpOf o == some q.2.1) && notSet q.2.2.1 && chkE n sc e1 q.1 && chkE n sc e2 q.2.2.1
  | .pu o p p', a => tst (xCmp a) fun q => (cmpOf o == some q.2.1) && notSet q.2.2.1 && chkP sc p q.1 && chkP sc p' q.2.2.1
  | .nonempty i, a => tst (xNe a) fun q => isVar sc i q.1
noncomputable def chkCs (n : Nat) (sc : Sc) : List C → List PySem.Expr → Bool
  | [], as => nil? as
  | e :: es, as => match as with
    | [] => false
    | a :: as => chkC n sc e a && chkCs n sc es as
noncomputable def chkI (n : Nat) (sc : Sc) : It → PySem.Expr → Bool
  | .ex e, a => chkE n sc e a
  | .range es, a => tst (xCall a) fun q => isBi sc q.1 "range" && noStars q.2.1 && !nil? q.2.1 && chkEs n sc es q.2.1
end
section
variable {cx : Cx} {n : Nat} {k : Nat} {A : Around} {cf : Cf} {cn : Cn}
theorem SndM.cong {env : Env} {sc : Sc} {ρ : Nat → Option Value} {m : Sem Value} {g g' : Sg → Option (T × Sg)} (e : ∀ σ, g σ = g' σ) (h : SndM cx n A env sc ρ m g') : SndM cx n A env sc ρ m g := by rw [funext e]; exact h
theorem evs_length : ∀ {es : List E} {σ : Sg} {r : List T × Sg}, evs cf cn es σ = some r → r.1.length = es.length
  | [], σ, r, e => by cases e; rfl
  | x :: es, σ, r, e => binv (o := ev cf cn x σ) e fun a _ e => binv (o := evs cf cn es a.2) e fun b e2 e => by
    rw [← Option.some.inj e]; exact congrArg Nat.succ (evs_length e2)
theorem evk_names : ∀ {es : List (String × E)} {σ : Sg} {r : List (String × T) × Sg}, evk cf cn es σ = some r → r.1.map (·.1) = es.map (·.1)
  | [], σ, r, e => by cases e; rfl
  | (m, x) :: es, σ, r, e => binv (o := ev cf cn x σ) e fun a _ e => binv (o := evk cf cn es a.2) e fun b e2 e => by
    rw [← Option.some.inj e]; exact congrArg (List.cons m) (evk_names e2)
noncomputable def pairsOf (env : Env) (pos : Pos) : List (Option PySem.Expr) → List PySem.Expr → List (Sem Value × Sem Value)
  | some k :: ks, a :: as => (eval k env, (do let v ← eval a env; standAt pos; pure v)) :: pairsOf env pos ks as
  | _, _ => []
theorem chkK_cons {sc : Sc} {nm : String} {e : E} {es : List (String × E)} {ks : List (Option PySem.Expr)} {as : List PySem.Expr} {G : List (Option PySem.Expr) → List PySem.Expr → Prop} (h : chkK n sc ((nm, e) :: es) ks as = true)
    (k : ∀ j p ks a as, chkE n sc e a = true → chkK n sc es ks as = true → G (some (.Constant (.str (Str.ofString nm)) j p) :: ks) (a :: as)) : G ks as := by
  cases ks with
  | nil => exact fot h
  | cons ko ks => cases as with
    | nil => exact fot h
    | cons a as =>
      have h1 := and1 (and1 h)
      cases ko with
      | none => exact fot h1
      | some kx =>
        refine constE (a := kx) h1 fun c j p h1 => ?_
        cases c <;> first | exact fot h1 | skip
        cases eq_of_beq h1
        exact k j p ks a as (and2 (and1 h)) (and2 h)
theorem pairs_shape {sc : Sc} {env : Env} {pos : Pos} : ∀ {es : List (String × E)} {ks : List (Option PySem.Expr)} {as : List PySem.Expr}, chkK n sc es ks as = true →
    ((evalEachOpt ks env).zip ((evalEach as env).map fun v => do let x ← v; standAt pos; pure x) = (pairsOf env pos ks as).map fun p => (some p.1, p.2)) ∧ (pairsOf env pos ks as).length = es.length
  | [], ks, as, h => by
    rw [nil_inv (and1 h), nil_inv (and2 h)]
    exact ⟨rfl, rfl⟩
  | (nm, e) :: es, ks, as, h => by
    refine chkK_cons (G := fun ks as => ((evalEachOpt ks env).zip ((evalEach as env).map fun v => do let x ← v; standAt pos; pure x) = (pairsOf env pos ks as).map fun p => (some p.1, p.2)) ∧ (pairsOf env pos ks as).length = es.length + 1) h fun j p ks a as _ h2 => ?_
    have ih := pairs_shape (env := env) (pos := pos) h2
    exact ⟨congrArg (List.cons _) ih.1, congrArg Nat.succ ih.2⟩
mutual
theorem sndE (H : All cx) (F : FnsOK cx) (B : Bud k A) (CF : CallOK cx k cf) (CN : NewOK cx k cn) : ∀ (e : E) (sc : Sc) (a : PySem.Expr), chkE n sc e a = true → ∀ (env : Env) (ρ : Nat → Option Value), SndM cx n A env sc ρ (eval a env) (ev cf cn e)
  | .pu p, sc, a, h, env, ρ => snd_pu H B h
  | .var i, sc, a, h, env, ρ => nameE (a := a) h fun x p h => snd_var (eq_of_beq (and1 h)) (not_of (and2 h))
  | .mov i, sc, a, h, env, ρ => nameE (a := a) h fun x p h => snd_mov (eq_of_beq (and1 h)) (not_of (and2 h))
  | .frz e, sc, a, h, env, ρ => snd_frz (sndE H F B CF CN e sc a h env ρ)
  | .op o [], sc, a, h, env, ρ => fun X V kp σ ob t σ' s Er Q St e q => by
    refine binv (o := prim o []) e fun u e1 _ => ?_
    exact nos (prim_nil.symm.trans e1)
  | .op o [e], sc, a, h, env, ρ => snd_op1 H B (and2 h) fun x hx => sndE H F B CF CN e sc x (and1 hx) env ρ
  | .op o [e, e'], sc, a, h, env, ρ => snd_op2 H B (not_of (and1 h)) (and2 h) fun x y hx => ⟨sndE H F B CF CN e sc x (and1 hx) env ρ, sndE H F B CF CN e' sc y (and1 (and2 hx)) env ρ⟩
  | .op o (e1 :: e2 :: e3 :: es), sc, a, h, env, ρ => fun X V kp σ ob t σ' s Er Q St e q => by
    refine binv (o := evs cf cn (e1 :: e2 :: e3 :: es) σ) e fun r h1 e => binv e fun ds h2 e => binv e fun t h3 _ => ?_
    have hl := evs_length h1
    have hd := allD_length h2
    rw [hl] at hd
    match ds, hd, h3 with
    | a :: b :: c :: l, _, h3 => exact nos (prim_len.symm.trans h3)
  | .bop isAnd es, sc, a, h, env, ρ => boolE (a := a) h fun op as p h => by
    cases eq_of_beq (and1 h)
    exact sndB H F B CF CN isAnd es sc as (not_of (and1 (and2 h))) (and2 (and2 h)) env ρ p
  | .ite c e1 e2, sc, a, h, env, ρ => ifE (a := a) h fun t x y p h => snd_ite (sndC H F B CF CN c sc t (and1 h) env ρ _ rfl) (sndE H F B CF CN e1 sc x (and1 (and2 h)) env ρ) (sndE H F B CF CN e2 sc y (and2 (and2 h)) env ρ)
  | .tup es, sc, a, h, env, ρ => tupE (a := a) h fun as j p h => snd_tup (and1 (and1 h)) (fun σ r e => evs_length e ▸ dec1 (and2 (and1 h))) (sndEs H F B CF CN es sc as (and2 h) env ρ)
  | .list es, sc, a, h, env, ρ => listE (a := a) h fun as p h => snd_list (and1 (and1 h)) (fun σ r e => evs_length e ▸ dec1 (and2 (and1 h))) (sndEs H F B CF CN es sc as (and2 h) env ρ)
  | .dict kvs, sc, a, h, env, ρ => dictE (a := a) h fun keys values pos h => by
    have hs := pairs_shape (env := env) (pos := pos) (and2 h)
    have h1 := and1 (and1 (and1 h))
    exact snd_dict H hs.1 (fun e => by rw [e] at hs; exact absurd (dec1 (and1 h1)) (by rw [← hs.2]; exact Nat.lt_irrefl 0)) (hs.2 ▸ dec1 (and2 h1)) (fun σ r e => evk_names e) (dec1 (and2 (and1 (and1 h)))) (dec1 (and2 (and1 h))) (sndK H F B CF CN kvs sc keys values (and2 h) env ρ pos)
  | .idict, sc, a, h, env, ρ => dictE (a := a) h fun keys values pos h => by
    cases nil_inv (l := keys) (and1 h); cases nil_inv (l := values) (and2 h)
    exact snd_idict
  | .call f es, sc, a, h, env, ρ => callE (a := a) h fun c as p h => snd_call H F B CF (and1 (and1 h)) (and2 (and1 h)) (sndEs H F B CF CN es sc as (and2 h) env ρ)
  | .callr f i es, sc, a, h, env, ρ => callrE (a := a) h fun c x xp as p h => snd_callr H F B CF (and1 (and1 (and1 (and1 h)))) (and2 (and1 (and1 (and1 h)))) (eq_of_beq (and1 (and2 (and1 (and1 h))))) (not_of (and2 (and2 (and1 (and1 h))))) (and2 (and1 h)) (sndEs H F B CF CN es sc as (and2 h) env ρ)
  | .new c es, sc, a, h, env, ρ => callE (a := a) h fun f as p h => snd_new H F B CN (and1 (and1 h)) (and2 (and1 h)) (sndEs H F B CF CN es sc as (and2 h) env ρ)
  | .cat e1 e2, sc, a, h, env, ρ => binE (a := a) h fun l op r p h => by
    cases eq_of_beq (and1 (and1 h))
    exact snd_cat (sndE H F B CF CN e1 sc l (and2 (and1 h)) env ρ) (sndE H F B CF CN e2 sc r (and2 h) env ρ)
  | .rep e1 e2, sc, a, h, env, ρ => binE (a := a) h fun l op r p h => by
    cases eq_of_beq (and1 (and1 h))
    exact snd_rep (sndE H F B CF CN e1 sc l (and2 (and1 h)) env ρ) (sndE H F B CF CN e2 sc r (and2 h) env ρ)
  | .slice e1 e2, sc, a, h, env, ρ => sliceE (a := a) h fun v u sp p h => snd_slice (sndE H F B CF CN e1 sc v (and1 h) env ρ) (sndE H F B CF CN e2 sc u (and2 h) env ρ)
  | .lcopy it, sc, a, h, env, ρ => call1E (a := a) h fun f x p h => snd_lcopy H B (and1 (and1 h)) (and2 (and1 h)) (sndIt H F B CF CN it sc x (and2 h) env ρ)
  | .lcopyP p, sc, a, h, env, ρ => call1E (a := a) h fun f x _ h => snd_lcopyP H B (and1 (and1 h)) (and2 (and1 h)) (and2 h)
  | .dcopy e, sc, a, h, env, ρ => call1E (a := a) h fun f x p h => snd_dcopy H (and1 (and1 h)) (and2 (and1 h)) (sndE H F B CF CN e sc x (and2 h) env ρ)
  | .pop i, sc, a, h, env, ρ => meth0E (a := a) h fun x xp m ap p h => by
    cases eq_of_beq (and1 (and1 h))
    exact snd_pop (eq_of_beq (and1 (and2 (and1 h)))) (not_of (and2 (and2 (and1 h)))) (and2 h)
  | .comp i it none elt, sc, a, h, env, ρ => compE (a := a) h fun el x xp iter ifs scope p h => by
    cases nil_inv (and1 (and1 (and1 (and1 h))))
    exact snd_comp B (chkComp_of (and2 (and1 (and1 (and1 h))))) (and2 (and1 (and1 h))) (sndIt H F B CF CN it sc iter (and2 (and1 h)) env ρ) (fun _ _ => sndT_nil) (fun _ _ => sndE H F B CF CN elt _ _ (and2 h) _ _)
  | .comp i it (some c) elt, sc, a, h, env, ρ => compE (a := a) h fun el x xp iter ifs scope p h => by
    obtain ⟨ca, rfl, hc⟩ := oneB_inv (and1 (and1 (and1 (and1 h))))
    exact snd_comp B (chkComp_of (and2 (and1 (and1 (and1 h))))) (and2 (and1 (and1 h))) (sndIt H F B CF CN it sc iter (and2 (and1 h)) env ρ) (fun _ _ => sndT_one (sndC H F B CF CN c _ _ hc _ _ _ rfl)) (fun _ _ => sndE H F B CF CN elt _ _ (and2 h) _ _)
  | .fail, sc, a, h, env, ρ => fun X V kp σ ob t σ' s Er Q St e q => nos e
theorem sndEs (H : All cx) (F : FnsOK cx) (B : Bud k A) (CF : CallOK cx k cf) (CN : NewOK cx k cn) : ∀ (es : List E) (sc : Sc) (as : List PySem.Expr), chkEs n sc es as = true → ∀ (env : Env) (ρ : Nat → Option Value), SndMs cx n A env sc ρ (spliced (trees as env)) (evs cf cn es)
  | [], sc, as, h, env, ρ => by
    rw [nil_inv h]
    exact sndMs_nil
  | e :: es, sc, [], h, env, ρ => fot h
  | e :: es, sc, a :: as, h, env, ρ => sndMs_cons (sndE H F B CF CN e sc a (and1 h) env ρ) (sndEs H F B CF CN es sc as (and2 h) env ρ)
theorem sndB (H : All cx) (F : FnsOK cx) (B : Bud k A) (CF : CallOK cx k cf) (CN : NewOK cx k cn) (isAnd : Bool) : ∀ (es : List E) (sc : Sc) (as : List PySem.Expr), nil? es = false → chkEs n sc es as = true → ∀ (env : Env) (ρ : Nat → Option Value) (pos : Pos), SndM cx n A env sc ρ (eval (.BoolOp (if isAnd then .And else .Or) as pos) env) (evb cf cn isAnd es)
  | [], sc, as, h0, h, env, ρ, pos => fot h0.symm
  | e :: es, sc, [], h0, h, env, ρ, pos => fot h
  | [e], sc, a :: as, h0, h, env, ρ, pos => by
    rw [nil_inv (and2 h)]
    exact snd_bop_one (sndE H F B CF CN e sc a (and1 h) env ρ)
  | e :: e' :: es, sc, [a], h0, h, env, ρ, pos => fot (and2 h)
  | e :: e' :: es, sc, a :: a' :: as, h0, h, env, ρ, pos => snd_bop_cons (sndE H F B CF CN e sc a (and1 h) env ρ) (sndB H F B CF CN isAnd (e' :: es) sc (a' :: as) rfl (and2 h) env ρ pos)
theorem sndK (H : All cx) (F : FnsOK cx) (B : Bud k A) (CF : CallOK cx k cf) (CN : NewOK cx k cn) : ∀ (es : List (String × E)) (sc : Sc) (ks : List (Option PySem.Expr)) (as : List PySem.Expr), chkK n sc es ks as = true → ∀ (env : Env) (ρ : Nat → Option Value) (pos : Pos), SndK cx n A env sc ρ (evalPairs (pairsOf env pos ks as)) (evk cf cn es)
  | [], sc, ks, as, h, env, ρ, pos => by
    rw [nil_inv (and1 h), nil_inv (and2 h)]
    exact sndK_nil
  | (nm, e) :: es, sc, ks, as, h, env, ρ, pos =>
    chkK_cons (G := fun ks as => SndK cx n A env sc ρ (evalPairs (pairsOf env pos ks as)) (evk cf cn ((nm, e) :: es))) h fun j p ks a as h1 h2 =>
      sndK_cons (sndE H F B CF CN e sc a h1 env ρ) (sndK H F B CF CN es sc ks as h2 env ρ pos)
theorem sndC (H : All cx) (F : FnsOK cx) (B : Bud k A) (CF : CallOK cx k cf) (CN : NewOK cx k cn) : ∀ (c : C) (sc : Sc) (a : PySem.Expr), chkC n sc c a = true → ∀ (env : Env) (ρ : Nat → Option Value) (whole : Sem Value), whole = eval a env → SndC cx n A env sc ρ (isTrue a env whole) (ec cf cn c)
  | .e e, sc, a, h, env, ρ, _, rfl => sndC_e (and1 h) (sndE H F B CF CN e sc a (and2 h) env ρ)
  | .not c, sc, a, h, env, ρ, w, hw => unE (a := a) (P := fun a => SndC cx n A env sc ρ (isTrue a env w) (ec cf cn (.not c))) h fun op x p h => by
    cases eq_of_beq (and1 h)
    exact sndC_not (sndC H F B CF CN c sc x (and2 h) env ρ _ rfl)
  | .bop isAnd cs, sc, a, h, env, ρ, w, hw => boolE (a := a) (P := fun a => SndC cx n A env sc ρ (isTrue a env w) (ec cf cn (.bop isAnd cs))) h fun op as p h => by
    cases eq_of_beq (and1 h)
    exact sndCs H F B CF CN isAnd cs sc as (and2 h) env ρ p w
  | .cmp o e1 e2, sc, a, h, env, ρ, w, hw => cmpE (a := a) (P := fun a => SndC cx n A env sc ρ (isTrue a env w) (ec cf cn (.cmp o e1 e2))) h fun l op r p h =>
    sndC_cmp B (eq_of_beq (and1 (and1 (and1 h)))) (and2 (and1 (and1 h))) (sndE H F B CF CN e1 sc l (and2 (and1 h)) env ρ) (sndE H F B CF CN e2 sc r (and2 h) env ρ)
  | .pu o p q, sc, a, h, env, ρ, w, hw => cmpE (a := a) (P := fun a => SndC cx n A env sc ρ (isTrue a env w) (ec cf cn (.pu o p q))) h fun l op r _ h =>
    sndC_pu H B (eq_of_beq (and1 (and1 (and1 h)))) (and2 (and1 (and1 h))) (and2 (and1 h)) (and2 h)
  | .nonempty i, sc, a, h, env, ρ, w, hw => neE (a := a) (P := fun a => SndC cx n A env sc ρ (isTrue a env w) (ec cf cn (.nonempty i))) h fun x xp lp p h => sndC_nonempty B (eq_of_beq (and1 h)) (not_of (and2 h))
theorem sndCs (H : All cx) (F : FnsOK cx) (B : Bud k A) (CF : CallOK cx k cf) (CN : NewOK cx k cn) (isAnd : Bool) : ∀ (cs : List C) (sc : Sc) (as : List PySem.Expr), chkCs n sc cs as = true → ∀ (env : Env) (ρ : Nat → Option Value) (pos : Pos) (whole : Sem Value), SndC cx n A env sc ρ (isTrue (.BoolOp (if isAnd then .And else .Or) as pos) env whole) (ecb cf cn isAnd cs)
  | [], sc, as, h, env, ρ, pos, whole => by
    rw [nil_inv h]
    exact sndC_bop_nil
  | c :: cs, sc, [], h, env, ρ, pos, whole => fot h
  | c :: cs, sc, a :: as, h, env, ρ, pos, whole => sndC_bop_cons (sndC H F B CF CN c sc a (and1 h) env ρ _ rfl) (sndCs H F B CF CN isAnd cs sc as (and2 h) env ρ pos whole)
theorem sndIt (H : All cx) (F : FnsOK cx) (B : Bud k A) (CF : CallOK cx k cf) (CN : NewOK cx k cn) : ∀ (it : It) (sc : Sc) (a : PySem.Expr), chkI n sc it a = true → ∀ (env : Env) (ρ : Nat → Option Value), SndI cx n A env sc ρ (eval a env) (evi cf cn it)
  | .ex e, sc, a, h, env, ρ => sndI_ex (sndE H F B CF CN e sc a h env ρ)
  | .range es, sc, a, h, env, ρ => callE (a := a) h fun f as p h => sndI_range H B (and1 (and1 (and1 h))) (and2 (and1 (and1 h))) (fun e => by rw [e] at h; exact fot (and2 (and1 h))) (sndEs H F B CF CN es sc as (and2 h) env ρ)
end
end
end Mine.Internal
end
section
open PySem PySem.W
set_option maxRecDepth 10000
namespace Mine.Internal
section
variable {cx : Cx} {n : Nat} {kp : KP} {k : Nat} {A : Around} {X Y ST : Lg} {env : Env} {sc : Sc} {ρ : Nat → Option Value} {σ : Sg} {ob : Ob}
theorem store_own {Er : Value → Shared → Prop} {s : Shared} {C x d : Addr} {od : Obj} {m : Str → Option Value} {j : Nat} {nm : Str} {tk : Tok} {v : Value} {b : Bool} {Q : Fin → Shared → Prop}
    (X : cx.K.In s.heap) (hh : (clsIn cx.K C).any (·.hasDict) = true) (hx : s.heap.get? x = some (instObj C d)) (hd : s.heap.get? d = some od) (ns : NsObj od m j) (hj : j ≤ 900)
    (q : ∀ h' od' tk, Heap.SameBut d s.heap h' → h'.get? d = some od' → od'.cls = od.cls → (∀ m' j', NsObj od m' j' → NsObj od' (fun y => if y = nm then some v else m' y) (if (m' nm).isSome then j' else j' + 1)) → Q (.done (.ret .none)) { s with heap := h', toks := tk }) :
    wpAny (model cx.prog cx.w) A (Builtin.ObjectAttr.storeInOwnDict (.ref x) (.ref C) (.str nm tk) nm v b) Q Er s := by
  obtain ⟨cd, hc, hd'⟩ := any_some hh
  refine wpAny_bind (wpAny_pure (wpAny_bind (wpAny_bind (wpAny_loadPart hx (wpAny_bind ((looks_clsIn X hc).here ?_))))))
  rw [hd']
  refine wpAny_pure (a := some d) (wpAny_bind (wpAny_pure (wpAny_bind ?_)))
  unfold nsSet
  refine wpAny_bind (wpAny_bind (wpAny_askSetting (wpAny_pure (wpAny_bind (wpAny_mkText (wpAny_bind (wpAny_loadPart hd ?_)))))))
  have key := fun hash t => putName_ns ns nm hash t v
  have all : ∀ hash t m' j', NsObj od m' j' → NsObj (Obj.putName nm hash (.str nm t) v od) (fun y => if y = nm then some v else m' y) (if (m' nm).isSome then j' else j' + 1) := fun hash t m' j' a => (putName_ns a nm hash t v).1
  obtain ⟨es, ep, e1, e2, e3, e4⟩ := ns
  have hany : es.any (·.refKey) = false := by
    rw [Array.any_eq_false']; intro e he; obtain ⟨n, t, h⟩ := e2 e he; simp [DictEntry.refKey, h]
  have c : aRefKeyMayBeTheName nm es = false := by rw [aRefKeyMayBeTheName_eq]; unfold aRefKeyMayBeTheNameByArray; rw [hany, Bool.and_false]
  rw [e1]
  dsimp only
  rw [c]
  refine wpAny_updatePart hd ?_
  have hfree : ∀ hash t, (Obj.putName nm hash (.str nm t) v od).isFreed = false := fun hash t => by
    obtain ⟨es', ep', d', _⟩ := (key hash t).1
    exact Obj.isFreed_of_dict d'
  have g' : ∀ hash t, (s.heap.update d (Obj.putName nm hash (.str nm t) v)).get? d = some (Obj.putName nm hash (.str nm t) v od) := fun hash t => Heap.get?_update_self _ hd (hfree hash t)
  have line : ∀ hash t, (Obj.putName nm hash (.str nm t) v od).data.pastItsLine = none := fun hash t => by
    obtain ⟨es', ep', d', _, z, _⟩ := (key hash t).1
    rw [d']
    refine pastItsLine_dict ?_
    rw [sizeLine_eq]
    split at z <;> lia
  refine wpAny_bind (wpAny_lookBehind (g' _ _) (line _ _) ?_)
  exact wpAny_pure (q _ _ _ (Heap.SameBut.update ..) (g' _ _) (key _ _).2 (all _ _))
theorem setattr_sound (H : CxOK cx) {Er : Value → Shared → Prop} {s : Shared} {l : Lg} (L : Led cx kp l s.heap) {C x d : Addr} {od : Obj} {m : Str → Option Value} {j : Nat} {nm : Str} {v : Value} {Q : Unit → Shared → Prop}
    (hA : AttrOK cx.K C nm = true) (hx : s.heap.get? x = some (instObj C d)) (hd : s.heap.get? d = some od) (ns : NsObj od m j) (hj : j ≤ 900)
    (q : ∀ h' od' tk, Heap.SameBut d s.heap h' → h'.get? d = some od' → od'.cls = od.cls → (∀ m' j', NsObj od m' j' → NsObj od' (fun y => if y = nm then some v else m' y) (if (m' nm).isSome then j' else j' + 1)) → Q () { s with heap := h', toks := tk }) :
    wpAny (model cx.prog cx.w) A (setAttr (.ref x) nm v) Q Er s := by
  obtain ⟨h1, h2, h3, h4⟩ := attr_set hA
  have X := H.inK.keeps L.sub
  have I : PySem.W.InstAt s.heap x (instObj C d) C (some od) := ⟨hx, rfl, rfl, hd⟩
  refine set_plain X I h1 (osa_open (s := { s with toks := s.toks + 1 }) X I h2 h3 fun b => ?_)
  have hh : (clsIn cx.K C).any (·.hasDict) = true := h4
  exact store_own (s := { s with toks := s.toks + 1 }) X hh hx hd ns hj q
end
end Mine.Internal
end
section
open PySem PySem.W
set_option maxRecDepth 10000
namespace Mine.Internal
section
variable {cx : Cx} {n : Nat} {kp : KP} {k : Nat} {A : Around} {X Y Z ST : Lg} {env : Env} {sc : Sc} {ρ : Nat → Option Value} {σ : Sg} {ob : Ob}
theorem NsObj.mono {o : Obj} {m : Str → Option Value} {j j' : Nat} (h : NsObj o m j) (l : j ≤ j') : NsObj o m j' := by
  obtain ⟨es, ep, a, b, c, d⟩ := h; exact ⟨es, ep, a, b, Nat.le_trans c l, d⟩
theorem ref_nf {a : Addr} : Value.ref a ≠ .type "frame" := by simp
theorem hasK_no {α : Type} {nm x : String} {t : α} {fs : List (String × α)} {G : Prop} (h : hasK nm ((x, t) :: fs) = false) (k : x ≠ nm → hasK nm fs = false → G) : G :=
  have h := (Bool.or_eq_false_iff (x := decide (x = nm))).mp h
  k (of_decide_eq_false h.1) h.2
theorem setL_ne {α : Type} {nm x : String} {v t : α} {fs : List (String × α)} (c : x ≠ nm) : setL nm v ((x, t) :: fs) = (x, t) :: setL nm v fs := if_neg c
theorem setL_eq {α : Type} {nm : String} {v t : α} {fs : List (String × α)} : setL nm v ((nm, t) :: fs) = (nm, v) :: fs := if_pos rfl
theorem ownF_upd {nm : String} {vv : Value} {m : Str → Option Value} : ∀ {fs : List (String × T)} {o : Lg}, hasK nm fs = false → OwnF cx kp m fs o → OwnF cx kp (fun y => if y = Str.ofString nm then some vv else m y) fs o
  | [], o, _, w => w
  | (x, t) :: fs, o, h, w => hasK_no h fun h1 h2 => by
    obtain ⟨v, o1, o2, e1, e2, w1, w2⟩ := w
    exact ⟨v, o1, o2, (if_neg fun e => h1 (ofString_inj e)).trans e1, e2, w1, ownF_upd h2 w2⟩
theorem app3 {o1 o2 ov r' dr : Lg} (p : (o2 ++ ov).Perm (r' ++ dr)) : (o1 ++ o2 ++ ov).Perm (o1 ++ r' ++ dr) := by
  rw [List.append_assoc, List.append_assoc]; exact p.append_left _
theorem ownF_set {nm : String} {vv : Value} {v : T} {ov : Lg} {m : Str → Option Value} (wv : Own cx kp vv v ov) : ∀ {fs : List (String × T)} {r : Lg}, nodupK fs = true → OwnF cx kp m fs r →
    ∃ r' dr, (r ++ ov).Perm (r' ++ dr) ∧ OwnF cx kp (fun y => if y = Str.ofString nm then some vv else m y) (setL nm v fs) r'
  | [], r, _, w => by
    cases w
    exact ⟨ov, [], List.perm_append_comm, vv, ov, [], if_pos rfl, (List.append_nil ov).symm, wv, rfl⟩
  | (x, t) :: fs, r, h, w => by
    obtain ⟨v', o1, o2, e1, rfl, w1, w2⟩ := w
    refine (Decidable.em (x = nm)).elim (fun c => ?_) fun c => ?_
    · subst c
      rw [setL_eq]
      exact ⟨ov ++ o2, o1, by exact PE.perm [_, _, _] [] (.p (.p (.a 0) (.a 1)) (.a 2)) (.p (.p (.a 2) (.a 1)) (.a 0)) rfl, vv, ov, o2, if_pos rfl, rfl, wv, ownF_upd (not_of (and1 h)) w2⟩
    · rw [setL_ne c]
      obtain ⟨r', dr, p, w3⟩ := ownF_set wv (and2 h) w2
      exact ⟨o1 ++ r', dr, app3 p, v', o1, r', (if_neg fun e => c (ofString_inj e)).trans e1, rfl, w1, w3⟩
theorem setL_length {α : Type} {nm : String} {v : α} : ∀ {fs : List (String × α)}, (setL nm v fs).length = if hasK nm fs then fs.length else fs.length + 1
  | [] => rfl
  | (x, t) :: fs => by
    refine (Decidable.em (x = nm)).elim (fun c => ?_) fun c => ?_
    · subst c
      rw [setL_eq, show hasK x ((x, t) :: fs) = true from congrArg (· || _) (decide_eq_true rfl)]
      rfl
    · rw [setL_ne c, show hasK nm ((x, t) :: fs) = hasK nm fs from congrArg (· || _) (decide_eq_false c)]
      refine (congrArg Nat.succ (setL_length (nm := nm) (v := v) (fs := fs))).trans ?_
      cases hasK nm fs <;> rfl
theorem setL_le {α : Type} {nm : String} {v : α} {fs : List (String × α)} : (setL nm v fs).length ≤ fs.length + 1 := by
  rw [setL_length]; cases hasK nm fs
  · exact Nat.le_refl _
  · exact Nat.le_succ _
theorem setL_ge {α : Type} {nm : String} {v : α} {fs : List (String × α)} : fs.length ≤ (setL nm v fs).length := by
  rw [setL_length]; cases hasK nm fs
  · exact Nat.le_succ _
  · exact Nat.le_refl _
theorem ownF_some {nm : String} {m : Str → Option Value} : ∀ {fs : List (String × T)} {o : Lg}, hasK nm fs = true → OwnF cx kp m fs o → (m (Str.ofString nm)).isSome = true
  | [], o, h, _ => by cases h
  | (x, t) :: fs, o, h, w => by
    obtain ⟨v, o1, o2, e1, e2, w1, w2⟩ := w
    rcases (Bool.or_eq_true _ _).mp h with h | h
    · cases dec1 h; rw [e1]; rfl
    · exact ownF_some h w2
theorem ownL_set {vv : Value} {v : T} {ov : Lg} (wv : Own cx kp vv v ov) : ∀ {ts : List T} {vs : List Value} {o : Lg} {j : Nat}, j < ts.length → OwnL cx kp vs ts o →
    ∃ o' dr, (o ++ ov).Perm (o' ++ dr) ∧ OwnL cx kp (vs.set j vv) (ts.set j v) o'
  | [], _, _, j, h, _ => absurd h (Nat.not_lt_zero _)
  | t :: ts, vs, o, 0, h, w => by
    obtain ⟨v', r, o1, o2, rfl, rfl, w1, w2⟩ := w
    exact ⟨ov ++ o2, o1, by exact PE.perm [_, _, _] [] (.p (.p (.a 0) (.a 1)) (.a 2)) (.p (.p (.a 2) (.a 1)) (.a 0)) rfl, vv, r, ov, o2, rfl, rfl, wv, w2⟩
  | t :: ts, vs, o, j + 1, h, w => by
    obtain ⟨v', r, o1, o2, rfl, rfl, w1, w2⟩ := w
    obtain ⟨o', dr, p, w3⟩ := ownL_set wv (Nat.lt_of_succ_lt_succ h) w2
    exact ⟨o1 ++ o', dr, app3 p, v', r.set j vv, o1, o', rfl, rfl, w1, w3⟩
theorem store_attr (H : All cx) {Er : Value → Shared → Prop} {s : Shared} {w vv : Value} {c : Cls} {fs : List (String × T)} {v : T} {ou ov : Lg} {nm : String} {Q : Unit → Shared → Prop}
    (L : Led cx kp (ou ++ (ov ++ Z)) s.heap) (wu : Own cx kp w (.oinst c fs) ou) (hl : fs.length ≤ 500) (hn : nodupK fs = true) (hA : AttrOK cx.K (cx.cA c) (Str.ofString nm) = true) (wv : Own cx kp vv v ov)
    (q : ∀ h' tk ou', Own cx kp w (.oinst c (setL nm v fs)) ou' → Led cx kp (ou' ++ Z) h' → Q () { s with heap := h', toks := tk }) :
    wpAny (model cx.prog cx.w) A (setAttr w (Str.ofString nm) vv) Q Er s := by
  obtain ⟨a, d, od, m, r, rfl, rfl, hb, hc, ns, wf⟩ := wu
  have g1 := L.get (a := a) (o := instObj (cx.cA c) d) (.head _) ref_nf
  have g2 := L.get (a := d) (o := od) (.tail _ (.head _)) (by rw [hc]; exact dct_nf)
  refine setattr_sound H.ok L hA g1 g2 ns (Nat.le_trans hl (Nat.le_of_ble_eq_true rfl)) fun h' od' tk hs g3 hc' hns => ?_
  obtain ⟨r', dr, p, wf'⟩ := ownF_set (nm := nm) wv hn wf
  have L2 := (L.perm (show ((a, instObj (cx.cA c) d) :: (d, od) :: r ++ (ov ++ Z)).Perm ((d, od) :: ((a, instObj (cx.cA c) d) :: (r ++ ov)) ++ Z) by exact PE.perm [_, _, _] [_, _] (.p (.c 1 (.c 0 (.a 0))) (.p (.a 1) (.a 2))) (.p (.c 0 (.c 1 (.p (.a 0) (.a 1)))) (.a 2)) rfl)).set hs g3
  have L3 := L2.perm (show ((d, od') :: ((a, instObj (cx.cA c) d) :: (r ++ ov)) ++ Z).Perm ((((a, instObj (cx.cA c) d) :: (d, od') :: r') ++ Z) ++ dr) from by
    refine ((((p.cons _).cons _).append_right Z)).trans ?_
    exact PE.perm [_, _, _] [_, _] (.p (.c 1 (.c 0 (.p (.a 0) (.a 1)))) (.a 2)) (.p (.p (.c 0 (.c 1 (.a 0))) (.a 2)) (.a 1)) rfl)
  refine q h' tk _ ?_ L3.dropR
  refine ⟨a, d, od', _, r', rfl, rfl, ⟨hb.1, Nat.le_trans setL_le (Nat.le_trans (Nat.succ_le_succ hl) (Nat.le_of_ble_eq_true rfl))⟩, hc'.trans hc, (hns _ _ ns).mono ?_, wf'⟩
  rw [setL_length]
  cases h : hasK nm fs with
  | true => rw [ownF_some h wf]; exact Nat.le_refl _
  | false => cases (m (Str.ofString nm)).isSome
             · exact Nat.le_refl _
             · exact Nat.le_succ _
theorem store_olist {Er : Value → Shared → Prop} {s : Shared} {w vv : Value} {ts : List T} {v : T} {ou ov : Lg} {i : Int} {t : Tok} {Q : Unit → Shared → Prop}
    (L : Led cx kp (ou ++ (ov ++ Z)) s.heap) (wu : Own cx kp w (.olist ts) ou) (h0 : 0 ≤ i) (h1 : i < 2 ^ 63) (hi : i.toNat < ts.length) (wv : Own cx kp vv v ov)
    (q : ∀ h' tk ou', Own cx kp w (.olist (ts.set i.toNat v)) ou' → Led cx kp (ou' ++ Z) h' → Q () { s with heap := h', toks := tk }) :
    wpAny (model cx.prog cx.w) A (setItem w (.int i t) vv) Q Er s := by
  obtain ⟨a, vs, m, r, rfl, rfl, wl⟩ := wu
  have g1 := L.get (a := a) (o := lobj vs m) (.head _) lst_nf
  have g1' : IsL s.heap a vs.toArray m := g1
  refine ki_setAt (n := m) g1' h0 h1 (show i < Int.ofNat vs.length by rw [ownL_length wl]; exact (Int.toNat_lt h0).mp hi) ?_
  obtain ⟨hs, m', g2⟩ := list_upd (fun xs => xs.setIfInBounds i.toNat vv) g1
  obtain ⟨r', dr, p, wl'⟩ := ownL_set wv hi wl
  have L2 := (L.perm (show ((a, lobj vs m) :: r ++ (ov ++ Z)).Perm ((a, lobj vs m) :: ((r ++ ov) ++ Z)) by exact PE.perm [_, _, _] [_] (.p (.c 0 (.a 0)) (.p (.a 1) (.a 2))) (.c 0 (.p (.p (.a 0) (.a 1)) (.a 2))) rfl)).set hs g2
  rw [Array.toList_setIfInBounds] at L2
  have L3 := L2.perm (show ((a, lobj (vs.set i.toNat vv) m') :: ((r ++ ov) ++ Z)).Perm ((((a, lobj (vs.set i.toNat vv) m') :: r') ++ Z) ++ dr) from by
    refine (((p.append_right Z)).cons _).trans ?_
    exact PE.perm [_, _, _] [_] (.c 0 (.p (.p (.a 0) (.a 1)) (.a 2))) (.p (.p (.c 0 (.a 0)) (.a 2)) (.a 1)) rfl)
  refine q _ s.toks _ ?_ L3.dropR
  exact ⟨a, _, m', r', rfl, rfl, wl'⟩
theorem lookup_append_none {α : Type} {i x : Int} {d : α} : ∀ {l : List (Int × α)}, l.lookup i = none → (l ++ [(i, d)]).lookup x = if x = i then some d else l.lookup x
  | [], _ => by
    rw [List.nil_append, List.lookup_cons]
    cases c : x == i with
    | true => rw [if_pos (eq_of_beq c)]
    | false => rw [if_neg (ne_of_beq_false c)]
  | (y, e) :: l, h => by
    rw [List.lookup_cons] at h
    cases q : i == y with
    | true => rw [q] at h; exact nos h.symm
    | false =>
      rw [q] at h
      rw [List.cons_append, List.lookup_cons, lookup_append_none h, List.lookup_cons]
      refine (Decidable.em (x = i)).elim (fun c => ?_) fun c => ?_
      · subst c; rw [q]
      · rw [if_neg c, if_neg c]
theorem size_ok {n : Nat} (h : n ≤ 600) : n ≤ sizeLine := by rw [sizeLine_eq]; lia
theorem store_oidict {Er : Value → Shared → Prop} {s : Shared} {w vv : Value} {kvs : List (Int × D)} {d : D} {ou : Lg} {i : Int} {t : Tok} {Q : Unit → Shared → Prop}
    (L : Led cx kp (ou ++ Z) s.heap) (wu : Own cx kp w (.oidict kvs) ou) (hl : kvs.length ≤ 500) (hi : kvs.lookup i = none) (rv : Rep cx kp vv d)
    (q : ∀ h' tk ou', Own cx kp w (.oidict (kvs ++ [(i, d)])) ou' → Led cx kp (ou' ++ Z) h' → Q () { s with heap := h', toks := tk }) :
    wpAny (model cx.prog cx.w) A (setItem w (.int i t) vv) Q Er s := by
  obtain ⟨a, od, f, rfl, rfl, ⟨es, ep, c1, c2, c3, c4, c5⟩, f1, f2⟩ := wu
  have g1 := L.get (a := a) (o := od) (.head _) (by rw [c1]; exact dct_nf)
  refine wpAny_setItem_intMap_le (f := f) (n := kvs.length) ⟨od, es, ep, g1, c1, c2, c3, c5⟩ (fun o es' ep' ho hd => ?_) (size_ok (Nat.le_trans hl (Nat.le_of_ble_eq_true rfl))) fun h' hm hz hs => ?_
  · cases g1.symm.trans ho; cases c2.symm.trans hd; exact c4
  · obtain ⟨o2, es2, ep2, g2, d1, d2, d3, d4⟩ := hm
    refine q h' _ [(a, o2)] ?_ (L.set hs g2)
    refine ⟨a, o2, _, rfl, rfl, ⟨es2, ep2, d1, d2, d3, by rw [List.length_append]; exact hz _ _ _ g2 d2, d4⟩, fun x hx => ?_, fun x d' hx => ?_⟩
    · rw [lookup_append_none hi] at hx
      refine (Decidable.em (x = i)).elim (fun c => ?_) fun c => (if_neg c).trans (f1 x ((if_neg c).symm.trans hx))
      exact nos (hx.symm.trans (if_pos c))
    · rw [lookup_append_none hi] at hx
      refine (Decidable.em (x = i)).elim (fun c => ?_) fun c => ?_
      · cases Option.some.inj ((if_pos c).symm.trans hx); exact ⟨vv, if_pos c, rv⟩
      · obtain ⟨v, e, r⟩ := f2 x d' ((if_neg c).symm.trans hx)
        exact ⟨v, (if_neg c).trans e, r⟩
theorem ownK_no {nm : String} {vv : Value} : ∀ {fs : List (String × T)} {kv : List (Str × Value)} {o : Lg}, hasK nm fs = false → OwnK cx kp kv fs o →
    kv.any (fun p => p.1 = Str.ofString nm) = false ∧ kv.map (fun p => if p.1 = Str.ofString nm then (p.1, vv) else p) = kv
  | [], kv, o, _, w => by obtain ⟨rfl, _⟩ := w; exact ⟨rfl, rfl⟩
  | (x, t) :: fs, kv, o, h, w => hasK_no h fun h1 h2 => by
    obtain ⟨v, q, o1, o2, rfl, rfl, w1, w2⟩ := w
    obtain ⟨h3, h4⟩ := ownK_no (vv := vv) h2 w2
    have ne : ¬ Str.ofString x = Str.ofString nm := fun e => h1 (ofString_inj e)
    exact ⟨(congrArg (· || _) (decide_eq_false ne)).trans h3, by rw [List.map_cons, h4, if_neg ne]⟩
theorem ownK_set {nm : String} {vv : Value} {v : T} {ov : Lg} (wv : Own cx kp vv v ov) : ∀ {fs : List (String × T)} {kv : List (Str × Value)} {r : Lg}, nodupK fs = true → OwnK cx kp kv fs r →
    ∃ r' dr, (r ++ ov).Perm (r' ++ dr) ∧ OwnK cx kp (if kv.any (fun p => p.1 = Str.ofString nm) then kv.map (fun p => if p.1 = Str.ofString nm then (p.1, vv) else p) else kv ++ [(Str.ofString nm, vv)]) (setL nm v fs) r'
  | [], kv, r, _, w => by
    obtain ⟨rfl, rfl⟩ := w
    exact ⟨ov, [], List.perm_append_comm, vv, [], ov, [], rfl, (List.append_nil ov).symm, wv, rfl, rfl⟩
  | (x, t) :: fs, kv, r, h, w => by
    obtain ⟨v', kq, o1, o2, rfl, rfl, w1, w2⟩ := w
    refine (Decidable.em (x = nm)).elim (fun c => ?_) fun c => ?_
    · subst c
      rw [setL_eq, List.any_cons, List.map_cons, (ownK_no (vv := vv) (not_of (and1 h)) w2).2, decide_eq_true (p := (Str.ofString x, v').1 = Str.ofString x) rfl, Bool.true_or, if_pos rfl, if_pos rfl]
      exact ⟨ov ++ o2, o1, by exact PE.perm [_, _, _] [] (.p (.p (.a 0) (.a 1)) (.a 2)) (.p (.p (.a 2) (.a 1)) (.a 0)) rfl, vv, kq, ov, o2, rfl, rfl, wv, w2⟩
    · have ne : ¬ (Str.ofString x, v').1 = Str.ofString nm := fun e => c (ofString_inj e)
      obtain ⟨r', dr, p, w3⟩ := ownK_set wv (and2 h) w2
      rw [setL_ne c, List.any_cons, List.map_cons, decide_eq_false ne, Bool.false_or, if_neg ne]
      refine ⟨o1 ++ r', dr, app3 p, v', _, o1, r', ?_, rfl, w1, w3⟩
      cases kq.any fun p => p.1 = Str.ofString nm <;> rfl
theorem store_odict {Er : Value → Shared → Prop} {s : Shared} {w vv : Value} {kvs : List (String × T)} {v : T} {ou ov : Lg} {nm : String} {t : Tok} {Q : Unit → Shared → Prop}
    (L : Led cx kp (ou ++ (ov ++ Z)) s.heap) (wu : Own cx kp w (.odict kvs) ou) (hl : kvs.length ≤ 500) (hn : nodupK kvs = true) (hsh : nm ≠ "shared") (wv : Own cx kp vv v ov)
    (q : ∀ h' tk ou', Own cx kp w (.odict (setL nm v kvs)) ou' → Led cx kp (ou' ++ Z) h' → Q () { s with heap := h', toks := tk }) :
    wpAny (model cx.prog cx.w) A (setItem w (.str (Str.ofString nm) t) vv) Q Er s := by
  have nf := Own.noFrame wu
  obtain ⟨a, od, kv, r, rfl, rfl, dd, wk⟩ := wu
  have g1 := L.get (a := a) (o := od) (.head _) (nf _ (.head _))
  have len : kv.length = kvs.length := by have := congrArg List.length (ownK_keys wk); rwa [List.length_map, List.length_map] at this
  refine wpAny_setItem_pairs (knd := strKind cx.prog cx.w) (k := Str.ofString nm) (strKind_is _ _ _ _) (dict_map dd g1) (fun h' hd hs => ?_) (size_ok (len ▸ Nat.le_trans hl (Nat.le_of_ble_eq_true rfl)))
  obtain ⟨o2, g2, dd2⟩ := dictObj_of dd.1 hd (fun p hp => by
    unfold stored at hp
    split at hp
    · obtain ⟨p0, h0, e⟩ := List.mem_map.mp hp
      have := dd.2.1 p0 h0
      split at e <;> subst e <;> exact this
    · rcases List.mem_append.mp hp with hp | hp
      · exact dd.2.1 p hp
      · rw [List.mem_singleton.mp hp]; exact fun e => hsh (ofString_inj e))
  obtain ⟨r', dr, p, wk'⟩ := ownK_set (nm := nm) wv hn wk
  have L2 := (L.perm (show ((a, od) :: r ++ (ov ++ Z)).Perm ((a, od) :: ((r ++ ov) ++ Z)) by exact PE.perm [_, _, _] [_] (.p (.c 0 (.a 0)) (.p (.a 1) (.a 2))) (.c 0 (.p (.p (.a 0) (.a 1)) (.a 2))) rfl)).set hs g2
  have L3 := L2.perm (show ((a, o2) :: ((r ++ ov) ++ Z)).Perm ((((a, o2) :: r') ++ Z) ++ dr) from by
    refine (((p.append_right Z)).cons _).trans ?_
    exact PE.perm [_, _, _] [_] (.c 0 (.p (.p (.a 0) (.a 1)) (.a 2))) (.p (.p (.c 0 (.a 0)) (.a 2)) (.a 1)) rfl)
  refine q _ _ _ ?_ L3.dropR
  refine ⟨a, o2, _, r', rfl, rfl, dd2, ?_⟩
  unfold stored
  exact wk'
end
end Mine.Internal
end
section
open PySem PySem.W
set_option maxRecDepth 10000
namespace Mine.Internal
section
variable {cx : Cx} {n : Nat} {kp : KP} {k : Nat} {A : Around} {X Y Z ST : Lg} {env : Env} {sc : Sc} {ρ : Nat → Option Value} {σ : Sg} {ob : Ob}
theorem lookE {α : Type} {nm z : String} {t d : α} {fs : List (String × α)} {G : Prop} (e : ((z, t) :: fs).lookup nm = some d) (k1 : nm = z → some t = some d → G) (k2 : nm ≠ z → fs.lookup nm = some d → G) : G := by
  rw [List.lookup_cons] at e
  cases q : nm == z with
  | true => rw [q] at e; exact k1 (eq_of_beq q) e
  | false => rw [q] at e; exact k2 (ne_of_beq_false q) e
theorem out3 {o1 o2 ox rest : Lg} (p : o2.Perm (ox ++ rest)) : (o1 ++ o2).Perm (ox ++ (o1 ++ rest)) := (p.append_left o1).trans (List.perm_append_comm_assoc ..)
theorem ownF_focus {nm : String} : ∀ {fs : List (String × T)} {m : Str → Option Value} {o : Lg} {x : T}, OwnF cx kp m fs o → fs.lookup nm = some x →
    ∃ w ox rest, m (Str.ofString nm) = some w ∧ o.Perm (ox ++ rest) ∧ Own cx kp w x ox ∧ ∀ kp' y oy, Sub kp kp' → Own cx kp' w y oy → ∃ o', o'.Perm (oy ++ rest) ∧ OwnF cx kp' m (setL nm y fs) o'
  | [], _, _, _, _, e => by cases e
  | (z, t) :: fs, m, o, x, w, e => by
    obtain ⟨v, o1, o2, e1, rfl, w1, w2⟩ := w
    refine lookE e (fun c e => ?_) fun c e => ?_
    · cases e; cases c
      exact ⟨v, o1, o2, e1, .refl _, w1, fun kp' y oy sb wy => ⟨oy ++ o2, .refl _, by rw [setL_eq]; exact ⟨v, oy, o2, e1, rfl, wy, OwnF.le sb.le w2⟩⟩⟩
    · obtain ⟨w', ox, rest, a1, a2, a3, a4⟩ := ownF_focus w2 e
      refine ⟨w', ox, o1 ++ rest, a1, out3 a2, a3, fun kp' y oy sb wy => ?_⟩
      obtain ⟨o', p, wf⟩ := a4 kp' y oy sb wy
      exact ⟨o1 ++ o', out3 p, by rw [setL_ne (Ne.symm c)]; exact ⟨v, o1, o', e1, rfl, w1.le sb.le, wf⟩⟩
theorem ownL_focus : ∀ {ts : List T} {vs : List Value} {o : Lg} {x : T} {j : Nat}, OwnL cx kp vs ts o → ts[j]? = some x →
    ∃ w ox rest, vs[j]? = some w ∧ o.Perm (ox ++ rest) ∧ Own cx kp w x ox ∧ ∀ kp' y oy, Sub kp kp' → Own cx kp' w y oy → ∃ o', o'.Perm (oy ++ rest) ∧ OwnL cx kp' vs (ts.set j y) o'
  | [], _, _, _, j, _, e => nos e
  | t :: ts, vs, o, x, 0, w, e => by
    obtain ⟨v, r, o1, o2, rfl, rfl, w1, w2⟩ := w
    cases e
    exact ⟨v, o1, o2, rfl, .refl _, w1, fun kp' y oy sb wy => ⟨oy ++ o2, .refl _, v, r, oy, o2, rfl, rfl, wy, OwnL.le sb.le w2⟩⟩
  | t :: ts, vs, o, x, j + 1, w, e => by
    obtain ⟨v, r, o1, o2, rfl, rfl, w1, w2⟩ := w
    obtain ⟨w', ox, rest, a1, a2, a3, a4⟩ := ownL_focus (j := j) w2 e
    refine ⟨w', ox, o1 ++ rest, a1, out3 a2, a3, fun kp' y oy sb wy => ?_⟩
    obtain ⟨o', p, wf⟩ := a4 kp' y oy sb wy
    exact ⟨o1 ++ o', out3 p, v, r, o1, o', rfl, rfl, w1.le sb.le, wf⟩
theorem hasK_of_lookup {α : Type} {nm : String} : ∀ {fs : List (String × α)} {d : α}, fs.lookup nm = some d → hasK nm fs = true
  | [], _, e => nos e
  | (x, t) :: fs, d, e => lookE e (fun c _ => (Bool.or_eq_true _ _).mpr (.inl (decide_eq_true c.symm))) fun c e => (Bool.or_eq_true _ _).mpr (.inr (hasK_of_lookup e))
theorem setL_has {α : Type} {nm : String} {v d : α} {fs : List (String × α)} (h : fs.lookup nm = some d) : (setL nm v fs).length = fs.length := by rw [setL_length, hasK_of_lookup h]; rfl
noncomputable def isNam (sc : Sc) (i : Nat) (a : PySem.Expr) : Bool := tst (xName a) fun q => isVar sc i q.1
noncomputable def chkPath (sc : Sc) (i : Nat) (path : List St) (a : PySem.Expr) : Bool := match path with
  | [] => isNam sc i a
  | st :: r => nil? r && match st with
    | .attr nm => tst (xAttr a) fun q => q.2.1 == Str.ofString nm && attrNames.contains nm && isNam sc i q.1
    | .item p => tst (xSub a) fun q => notSlice q.2.1 && chkP sc p q.2.1 && isNam sc i q.1
theorem Ste.slotMem (S : Ste cx n kp ρ σ ob X h) {i : Nat} (hi : i < n) : ∀ p ∈ ob i, p ∈ fl n ob ++ X := fun p hp => List.mem_append_left _ ((fl_split hi).mem_iff.mpr (List.mem_append_left _ hp))
theorem own_handed {v : Value} {t : T} {o : Lg} (w : Own cx kp v t o) (h : t ≠ .frz .any) : handedIn v = true := by
  cases t with
  | frz d => exact handed_rep (own_frz w).2 (fun e => h (by rw [e]))
  | olist ts => obtain ⟨a, _, _, _, rfl, _⟩ := w; rfl
  | oinst c fs => obtain ⟨a, _, _, _, _, rfl, _⟩ := w; rfl
  | odict kvs => obtain ⟨a, _, _, _, rfl, _⟩ := w; rfl
  | oidict kvs => obtain ⟨a, _, _, rfl, _⟩ := w; rfl
noncomputable def Walk (cx : Cx) (n : Nat) (kp : KP) (ρ : Nat → Option Value) (σ : Sg) (ob : Ob) (X : Lg) (A : Around) (env : Env) (w : Value) (ast : PySem.Expr) : Prop :=
  ∀ (s : Shared) (Er Q : Value → Shared → Prop), Ste cx n kp ρ σ ob X s.heap → (∀ h' tk, Gr s.heap h' → Q w { s with heap := h', toks := tk }) → wpAny (model cx.prog cx.w) A (eval ast env) Q Er s
theorem nam_walk {i : Nat} {ast : PySem.Expr} {v : Value} (V : EnvOK A env sc ρ X) (hc : isNam sc i ast = true) (hr : ρ i = some v) {s : Shared} {Er Q : Value → Shared → Prop} (S : Ste cx n kp ρ σ ob X s.heap) (q : Q v s) : wpAny (model cx.prog cx.w) A (eval ast env) Q Er s :=
  nameE (a := ast) hc fun x p h => name_sound S.led V (badName_of (not_of (and2 h))).1 (badName_of (not_of (and2 h))).2 (eq_of_beq (and1 h)) hr q
theorem nam_plain {i : Nat} {ast : PySem.Expr} (hc : isNam sc i ast = true) : noSuper ast = true := nameE (a := ast) hc fun _ _ _ => rfl
theorem noSl {e : PySem.Expr} (h : notSlice e = true) (o i : Value) : subscripted e false o i = operate [o, i] (getItem o i) := by
  cases e <;> first | rfl | cases h
noncomputable def Back (cx : Cx) (kp : KP) (w v : Value) (u' t' : T) (rest : Lg) : Prop := ∀ kp' oy, Sub kp kp' → Own cx kp' w u' oy → ∃ o', o'.Perm (oy ++ rest) ∧ Own cx kp' v t' o'
theorem focus (H : All cx) (B : Bud k A) {i : Nat} {path : List St} {ast : PySem.Expr} {f : T → Option T} {t t' : T} {v : Value} {G : Prop} (V : EnvOK A env sc ρ X) (hc : chkPath sc i path ast = true) (hf : f (.frz .any) = none)
    (e1 : gv σ i = some t) (hr : ρ i = some v) (hi : i < n) (w0 : Own cx kp v t (ob i)) (e2 : updP σ path f t = some t')
    (K : ∀ w u u' ou rest, f u = some u' → (ob i).Perm (ou ++ rest) → Own cx kp w u ou → Back cx kp w v u' t' rest → Walk cx n kp ρ σ ob X A env w ast → G) : G := by
  cases path with
  | nil => exact K v t t' (ob i) [] e2 (by rw [List.append_nil]) w0 (fun kp' oy sb wy => ⟨oy, by rw [List.append_nil], wy⟩) fun s Er Q S q => nam_walk V hc hr S (q _ _ Gr.refl)
  | cons st r =>
    cases nil_inv (l := r) (and1 (a := nil? r) hc)
    have hc := and2 (a := true) hc
    cases st with
    | attr nm =>
      refine binv (o := asOi t) e2 fun q e3 e4 => binv e4 fun u e5 e6 => binv (o := f u) e6 fun u' e7 ee => ?_
      cases ee; cases asOi_inv e3
      clear e4 e6
      obtain ⟨a, d, od, m, r, rfl, ho, hb, hc', ns, wf⟩ := w0
      obtain ⟨w, ou, rest, a1, a2, a3, a4⟩ := ownF_focus wf e5
      refine K w u u' ou ((a, instObj (cx.cA q.1) d) :: (d, od) :: rest) e7 ?_ a3 (fun kp' oy sb wy => ?_) fun s Er Q S qq => ?_
      · rw [ho]; exact out3 (o1 := [(a, instObj (cx.cA q.1) d), (d, od)]) a2
      · obtain ⟨o', p, wf'⟩ := a4 kp' u' oy sb wy
        exact ⟨(a, instObj (cx.cA q.1) d) :: (d, od) :: o', out3 (o1 := [(a, instObj (cx.cA q.1) d), (d, od)]) p, a, d, od, m, o', rfl, rfl, ⟨hb.1, by rw [setL_has e5]; exact hb.2⟩, hc', ns.mono setL_ge, wf'⟩
      · have g1 : s.heap.get? a = some (instObj (cx.cA q.1) d) := S.led.get (S.slotMem hi _ (by rw [ho]; exact .head _)) ref_nf
        have g2 : s.heap.get? d = some od := S.led.get (S.slotMem hi _ (by rw [ho]; exact .tail _ (.head _))) (by rw [hc']; exact dct_nf)
        refine attrE (a := ast) hc fun x mm p h => ?_
        cases eq_of_beq (and1 (and1 h))
        refine attr_ast (nam_plain (and2 h)) (nam_walk V (and2 h) hr S ?_)
        exact attr_core H.ok S.led (H.cls.attr q.1 _ (mem_of (and2 (and1 h)))) g1 rfl rfl rfl g2 ns a1 (own_handed a3 fun z => by rw [z, hf] at e7; exact nos e7) (qq _ _ Gr.refl)
    | item p =>
      refine binv (o := asOl t) e2 fun ts e3 e4 => binv e4 fun kk e5 e6 => binv e6 fun j e7 e8 => binv e8 fun jn e9 e10 => binv e10 fun u e11 e12 => binv (o := f u) e12 fun u' e13 ee => ?_
      cases ee; cases asOl_inv e3
      clear e4 e6 e8 e10 e12
      obtain ⟨i0, i1, rfl⟩ := idx_inv e9
      obtain ⟨a, vs, m, r, rfl, ho, wl⟩ := w0
      obtain ⟨w, ou, rest, a1, a2, a3, a4⟩ := ownL_focus wl e11
      refine K w u u' ou ((a, lobj vs m) :: rest) e13 ?_ a3 (fun kp' oy sb wy => ?_) fun s Er Q S q => ?_
      · rw [ho]; exact out3 (o1 := [(a, lobj vs m)]) a2
      · obtain ⟨o', p, wf'⟩ := a4 kp' u' oy sb wy
        exact ⟨(a, lobj vs m) :: o', out3 (o1 := [(a, lobj vs m)]) p, a, vs, m, o', rfl, rfl, wf'⟩
      · have g1 : s.heap.get? a = some (lobj vs m) := S.led.get (S.slotMem hi _ (by rw [ho]; exact .head _)) lst_nf
        refine subE (a := ast) hc fun x ix pos h => ?_
        refine PyProof.Rows.Subscript_ (nam_walk V (and2 h) hr S ?_)
        refine pv_sound H B V _ _ _ (and2 (and1 h)) e5 s Er _ S fun iv h' tk g wi => ?_
        refine wi.intE e7 fun tt => ?_
        exact item_list (s := { s with heap := h', toks := tk }) (noSl (and1 (and1 h))) rfl rfl (g _ _ g1) i0 i1 a1 (q _ _ g)
end
end Mine.Internal
end
section
open PySem PySem.W
set_option maxRecDepth 10000
namespace Mine.Internal
noncomputable def ExcAt (cx : Cx) (m : String) (e : Addr) (b : Bool) (ox : Lg) : Prop :=
  ∃ oe d od mm j vs, oe.cls = .ref cx.eA ∧ oe.dict = some d ∧ oe.data = .fields vs ∧ 1 < vs.size ∧ od.cls = .type "dict" ∧ NsObj od mm j ∧ (∃ t, mm "message" = some (.str (Str.ofString m) t)) ∧
    (match b with
    | false => vs[1]? = some .none ∧ ox = [(e, oe), (d, od)]
    | true => ∃ T oT ts fl, vs[1]? = some (.ref T) ∧ oT.cls = .type "traceback" ∧ oT.data = .fields ts ∧ ts[3]? = some fl ∧ ox = [(e, oe), (d, od), (T, oT)])
section
variable {cx : Cx} {kp : KP} {A : Around} {X : Lg} {env : Env} {s : Shared} {M : Model} {Er : Value → Shared → Prop}
theorem Led.slots {l : Lg} {h h' : Heap} {S : List Addr} (L : Led cx kp l h) (hS : ∀ b ∈ S, ∃ o, (b, o) ∈ l ∧ o.cls = .type "frame") (x : Heap.SlotsOnly S h h') : Led cx kp l h' := by
  obtain ⟨_, x2, x3⟩ := x
  have na : ∀ a o, kp a = some o → a ∉ S := fun a o e q => by
    obtain ⟨o', m, _⟩ := hS a q
    have w : kp a = none := L.apart _ m
    rw [w] at e; cases e
  refine ⟨fun a o e => ?_, fun p hp => ?_, L.nodup, L.apart, L.base, fun a o e => ?_⟩
  · obtain ⟨o', e1, e2⟩ := L.kept a o e
    exact ⟨o', (x2 a (na a o e)).trans e1, e2⟩
  · obtain ⟨o', e1, e2⟩ := L.objs p hp
    by_cases q : p.1 ∈ S
    · obtain ⟨o2, m, c⟩ := hS _ q
      have : p.2 = o2 := L.uniq hp m
      rw [← this] at c
      obtain ⟨sl, e3⟩ := x3 _ _ e1
      refine ⟨_, e3, .inr ⟨c, ?_⟩⟩
      rcases e2 with rfl | ⟨_, a, b, d⟩
      · exact ⟨rfl, rfl, rfl⟩
      · exact ⟨a, b, d⟩
    · exact ⟨o', (x2 _ q).trans e1, e2⟩
  · exact (x2 a (na a o (L.base a o e))).trans (L.sub a o e)
theorem Stk.fun {l : List Env} {lg : Lg} {h : Heap} (K : Stk A X) (hA : A.frames = some l) (L : Led cx kp lg h) (hX : ∀ p ∈ X, p ∈ lg) : h.FunFrames {} l ∧ ∀ b ∈ l.filterMap (·.frame), ∃ o, (b, o) ∈ lg ∧ o.cls = .type "frame" := by
  obtain ⟨l', e, f⟩ := K.ex
  rw [hA] at e; cases e
  have key : ∀ r : List Env, (∀ e ∈ r, e ∈ l) → h.FunFrames {} r := by
    intro r
    induction r with
    | nil => intro _; trivial
    | cons ev r ih =>
      intro hr
      obtain ⟨a, L', o, b, c, d, es, ep, z⟩ := f ev (hr ev (.head _))
      obtain ⟨o', g1, _, g2, _⟩ := L.data (hX _ c)
      exact ⟨a, ⟨L', o', b, rfl, g1, fun vs q => by rw [g2, z] at q; cases q⟩, ih fun e he => hr e (.tail _ he)⟩
  refine ⟨key l fun _ h => h, fun b hb => ?_⟩
  obtain ⟨ev, he, hf⟩ := List.mem_filterMap.mp hb
  obtain ⟨a, L', o, b', c, d, _⟩ := f ev he
  rw [hf] at b'; cases b'
  exact ⟨o, hX _ c, d⟩
theorem exc_entry {l : List Env} {L e : Addr} {oe : Obj} {vs : Array Value} {Y : Lg} {head : Value} {hadNext : Bool} {Q : Unit → Shared → Prop} (hA : A.frames = some (env :: l)) (hf : env.frame = some L) (K : Stk A X)
    (hX : ∀ p ∈ X, p ∈ Y) (Ld : Led cx kp ((e, oe) :: Y) s.heap) (hc : oe.cls ≠ .type "frame") (hd : oe.data = .fields vs) (h1 : 1 < vs.size)
    (q : ∀ h' T oT ts, oT.cls = .type "traceback" → oT.data = .fields ts → ts[3]? = some (rawInt L) → Led cx kp ((e, Obj.mapFields (·.setIfInBounds 1 (.ref T)) oe) :: (T, oT) :: Y) h' → Q () { s with heap := h' }) :
    wpAny M A (do let a ← frameOf env; let pl ← entryPlaceOf L hadNext; let b ← EntryCells.newEntry head a .none (rawInt L) .none pl; setField (.ref e) 1 b) Q Er s := by
  obtain ⟨k1, k2⟩ := K.fun hA Ld fun p hp => .tail _ (hX p hp)
  refine wpAny_bind (wpAny_frameOf_fun hA k1 hf fun h₁ hs₁ => ?_)
  have L1 := Ld.slots k2 hs₁
  refine wpAny_bind (wpAny_entryPlaceOf fun pl hpl => ?_)
  unfold EntryCells.newEntry newFields
  refine wpAny_bind (wpAny_newObj_type ?_ (hpl.sizeOk5 _ _ _ _ _))
  have L2 := L1.push (o := { cls := .type "traceback", dict := none, data := .fields ([head, .ref L, .none, rawInt L, .none] ++ (if pl.isEmpty then List.replicate 6 Value.none else pl)).toArray }) rfl
  have L3 := L2.perm (List.Perm.swap _ _ _)
  have g := L3.get (.head _) hc
  refine wpAny_setField g hd h1 ?_
  have hd3 := Obj.data_mapFields hd (·.setIfInBounds 1 (Value.ref h₁.objs.size))
  refine q _ h₁.objs.size _ _ rfl rfl ?_ (L3.set (Heap.SameBut.update ..) (Heap.get?_update_self _ g (Obj.isFreed_of_fields hd3)))
  simp
theorem exc_note {l : List Env} {L e : Addr} {b : Bool} {m : String} {ox : Lg} {Q : Unit → Shared → Prop} (hA : A.frames = some (env :: l)) (hf : env.frame = some L) (K : Stk A X)
    (Ld : Led cx kp (ox ++ X) s.heap) (w : ExcAt cx m e b ox) (q : ∀ ox' h', ExcAt cx m e true ox' → Led cx kp (ox' ++ X) h' → Q () { s with heap := h' }) : wpAny M A (noteFrame (.ref e) env) Q Er s := by
  obtain ⟨oe, d, od, mm, j, vs, a1, a2, a3, a4, a5, a6, a7, a8⟩ := w
  have hc : oe.cls ≠ .type "frame" := by rw [a1]; simp
  unfold noteFrame
  simp only [hf]
  cases b with
  | false =>
    obtain ⟨b1, rfl⟩ := a8
    refine wpAny_bind (wpAny_field (Ld.get (.head _) hc) a3 b1 ?_)
    rw [if_neg (by decide)]
    refine exc_entry (Y := (d, od) :: X) hA hf K (fun p hp => .tail _ hp) Ld hc a3 a4 fun h' T oT ts c1 c2 c3 L' => ?_
    refine q _ h' ⟨Obj.mapFields (·.setIfInBounds 1 (.ref T)) oe, d, od, mm, j, vs.setIfInBounds 1 (.ref T), (Obj.cls_mapFields _ _).trans a1, ?_, Obj.data_mapFields a3 (·.setIfInBounds 1 (.ref T)), by simpa using a4, a5, a6, a7, T, oT, ts, _, by simp [a4], c1, c2, c3, rfl⟩ (L'.perm ?_)
    · rw [← a2]; obtain ⟨_, _, dt, _⟩ := oe; cases a3; rfl
    · exact (List.Perm.swap _ _ _).cons _
  | true =>
    obtain ⟨T, oT, ts, fl, b1, b2, b3, b4, rfl⟩ := a8
    have hT : oT.cls ≠ .type "frame" := by rw [b2]; simp
    refine wpAny_bind (wpAny_field (Ld.get (.head _) hc) a3 b1 ?_)
    rw [if_pos (show (Value.ref T != Value.none) = true from by simp)]
    refine wpAny_bind (wpAny_field (Ld.get (.tail _ (.tail _ (.head _))) hT) b3 b4 ?_)
    by_cases hfl : (fl == rawInt L) = true
    · rw [if_pos hfl]
      exact wpAny_pure (q _ s.heap ⟨oe, d, od, mm, j, vs, a1, a2, a3, a4, a5, a6, a7, T, oT, ts, fl, b1, b2, b3, b4, rfl⟩ Ld)
    · rw [if_neg hfl]
      refine wpAny_bind (wpAny_setField (Ld.get (.tail _ (.tail _ (.head _))) hT) b3 (Array.getElem?_eq_some_iff.mp b4).1 ?_)
      have L1 := (Ld.perm (show ([(e, oe), (d, od), (T, oT)] ++ X).Perm ((T, oT) :: ([(e, oe), (d, od)] ++ X)) by exact PE.perm [_] [_, _, _] (.p (.c 2 (.c 1 (.c 0 .n))) (.a 0)) (.c 0 (.p (.c 2 (.c 1 .n)) (.a 0))) rfl)).set (Heap.SameBut.update _ T (Obj.mapFields (·.setIfInBounds 3 Value.none))) (Heap.get?_update_self _ (Ld.get (.tail _ (.tail _ (.head _))) hT) (Obj.isFreed_of_fields (Obj.data_mapFields b3 _)))
      have L2 : Led cx kp ((e, oe) :: (d, od) :: X) _ := Led.dropL (l := [_]) L1
      refine exc_entry (s := { s with heap := _ }) (Y := (d, od) :: X) hA hf K (fun p hp => .tail _ hp) L2 hc a3 a4 fun h' T' oT' ts' c1 c2 c3 L' => ?_
      refine q _ h' ⟨Obj.mapFields (·.setIfInBounds 1 (.ref T')) oe, d, od, mm, j, vs.setIfInBounds 1 (.ref T'), (Obj.cls_mapFields _ _).trans a1, ?_, Obj.data_mapFields a3 (·.setIfInBounds 1 (.ref T')), by simpa using a4, a5, a6, a7, T', oT', ts', _, by simp [a4], c1, c2, c3, rfl⟩ (L'.perm ?_)
      · rw [← a2]; obtain ⟨_, _, dt, _⟩ := oe; cases a3; rfl
      · exact (List.Perm.swap _ _ _).cons _
theorem exc_flight {e : Addr} {b : Bool} {m : String} {ox : Lg} {fr : Option Addr} {Q : Unit → Shared → Prop} (Ld : Led cx kp (ox ++ X) s.heap) (w : ExcAt cx m e b ox)
    (q : ∀ ox' h', ExcAt cx m e b ox' → Led cx kp (ox' ++ X) h' → Q () { s with heap := h' }) : wpAny M A (setFlight (.ref e) fr) Q Er s := by
  obtain ⟨oe, d, od, mm, j, vs, a1, a2, a3, a4, a5, a6, a7, a8⟩ := w
  have hc : oe.cls ≠ .type "frame" := by rw [a1]; simp
  unfold setFlight
  cases b with
  | false =>
    obtain ⟨b1, rfl⟩ := a8
    refine wpAny_bind (wpAny_field (Ld.get (.head _) hc) a3 b1 ?_)
    rw [if_neg (by decide)]
    exact wpAny_pure (q _ s.heap ⟨oe, d, od, mm, j, vs, a1, a2, a3, a4, a5, a6, a7, b1, rfl⟩ Ld)
  | true =>
    obtain ⟨T, oT, ts, fl, b1, b2, b3, b4, rfl⟩ := a8
    have hT : oT.cls ≠ .type "frame" := by rw [b2]; simp
    refine wpAny_bind (wpAny_field (Ld.get (.head _) hc) a3 b1 ?_)
    rw [if_pos (show (Value.ref T != Value.none) = true from by simp)]
    have h3 := (Array.getElem?_eq_some_iff.mp b4).1
    refine wpAny_setField (Ld.get (.tail _ (.tail _ (.head _))) hT) b3 h3 ?_
    have L1 := (Ld.perm (show ([(e, oe), (d, od), (T, oT)] ++ X).Perm ((T, oT) :: ([(e, oe), (d, od)] ++ X)) by exact PE.perm [_] [_, _, _] (.p (.c 2 (.c 1 (.c 0 .n))) (.a 0)) (.c 0 (.p (.c 2 (.c 1 .n)) (.a 0))) rfl)).set (Heap.SameBut.update _ T (Obj.mapFields (·.setIfInBounds 3 (fr.elim .none fun f => rawInt f)))) (Heap.get?_update_self _ (Ld.get (.tail _ (.tail _ (.head _))) hT) (Obj.isFreed_of_fields (Obj.data_mapFields b3 _)))
    refine q _ _ ⟨oe, d, od, mm, j, vs, a1, a2, a3, a4, a5, a6, a7, T, Obj.mapFields (·.setIfInBounds 3 (fr.elim .none fun f => rawInt f)) oT, ts.setIfInBounds 3 (fr.elim .none fun f => rawInt f), _, b1, (Obj.cls_mapFields _ _).trans b2, Obj.data_mapFields b3 (·.setIfInBounds 3 (fr.elim .none fun f => rawInt f)), by simp [h3]; rfl, rfl⟩ (L1.perm ?_)
    exact PE.perm [_] [_, _, _] (.c 2 (.p (.c 1 (.c 0 .n)) (.a 0))) (.p (.c 1 (.c 0 (.c 2 .n))) (.a 0)) rfl
theorem exc_leaving {l : List Env} {L e : Addr} {b : Bool} {m : String} {ox : Lg} {Q : Unit → Shared → Prop} (hA : A.frames = some (env :: l)) (hf : env.frame = some L) (K : Stk A X)
    (Ld : Led cx kp (ox ++ X) s.heap) (w : ExcAt cx m e b ox) (q : ∀ ox' h', ExcAt cx m e true ox' → Led cx kp (ox' ++ X) h' → Q () { s with heap := h' }) : wpAny M A (leaving env (.ref e)) Q Er s := by
  unfold leaving
  refine wpAny_bind (exc_note hA hf K Ld w fun ox1 h1 w1 L1 => ?_)
  exact exc_flight (s := { s with heap := h1 }) L1 w1 q
theorem exc_noted {l : List Env} {L e : Addr} {b : Bool} {m : String} {ox : Lg} {E : Value → Shared → Prop} (hA : A.frames = some (env :: l)) (hf : env.frame = some L) (K : Stk A X)
    (Ld : Led cx kp (ox ++ X) s.heap) (w : ExcAt cx m e b ox) (q : ∀ ox' h', ExcAt cx m e true ox' → Led cx kp (ox' ++ X) h' → E (.ref e) { s with heap := h' }) : notedBy M A env E (.ref e) s := exc_note hA hf K Ld w q
theorem exc_back {e : Addr} {m : String} {ox : Lg} {E : Value → Shared → Prop}
    (Ld : Led cx kp (ox ++ X) s.heap) (w : ExcAt cx m e true ox) (q : ∀ ox' h', ExcAt cx m e true ox' → Led cx kp (ox' ++ X) h' → E (.ref e) { s with heap := h' }) : cameBackBy M A env E (.ref e) s := by
  have w' := w
  obtain ⟨oe, d, od, mm, j, vs, a1, a2, a3, a4, a5, a6, a7, T, oT, ts, fl, b1, b2, b3, b4, rfl⟩ := w
  have hc : oe.cls ≠ .type "frame" := by rw [a1]; simp
  unfold cameBackBy
  refine wpAny_bind (wpAny_field (Ld.get (.head _) hc) a3 b1 ?_)
  rw [if_neg (show ¬ ((Value.ref T == Value.none) = true) from by simp)]
  first
    | exact wpAny_bind (wpAny_pure (exc_flight Ld w' q))
    | exact exc_flight Ld w' q
end
end Mine.Internal
end
section
open PySem PySem.W
set_option maxRecDepth 10000
namespace Mine.Internal
structure FCtx where
  sc : Sc
  ws : List Str
structure FCOK (n : Nat) (Γ : FCtx) : Prop where
  ws : ∀ x i, Γ.sc.vs.lookup x = some i → x ∈ Γ.ws ∧ i < n
  inj : ∀ x y i, Γ.sc.vs.lookup x = some i → Γ.sc.vs.lookup y = some i → y = x
noncomputable def PostS (cx : Cx) (n : Nat) (A : Around) (env : Env) (Γ : FCtx) (z : Bool) (kp : KP) (ρ : Nat → Option Value) (Y Z : Lg) (s : Shared) (r : Fl) (Q : Flow → Shared → Prop) (Er : Value → Shared → Prop) : Prop :=
  match r with
  | .next σ' => ∀ kp' ob' ρ' ST' h' tk', Sub kp kp' → (z = true → ρ' 0 = ρ 0) → EnvOK A env Γ.sc ρ' (ST' ++ Z) → FrameOK env Γ.ws ST' → Ste cx n kp' ρ' σ' ob' (ST' ++ Y) h' → Q .next { s with heap := h', toks := tk' }
  | .ret t σ' => ∀ v kp' ob' ρ' ST' o h' tk', Sub kp kp' → (z = true → ρ' 0 = ρ 0) → EnvOK A env Γ.sc ρ' (ST' ++ Z) → FrameOK env Γ.ws ST' → Own cx kp' v t o → Ste cx n kp' ρ' σ' ob' (o ++ (ST' ++ Y)) h' → Q (.ret v) { s with heap := h', toks := tk' }
  | .exc m => ∀ e b kp' ST' ox h' tk', Sub kp kp' → ExcAt cx m e b ox → Stk A (ST' ++ Z) → Led cx kp' (ox ++ (ST' ++ Y)) h' → Er (.ref e) { s with heap := h', toks := tk' }
noncomputable def SndS (cx : Cx) (n : Nat) (A : Around) (env : Env) (Γ : FCtx) (z : Bool) (m : Sem Flow) (g : Sg → Option Fl) : Prop :=
  ∀ Y Z, (∀ p ∈ Z, p ∈ Y) → ∀ kp ρ ST σ ob r s Er Q, EnvOK A env Γ.sc ρ (ST ++ Z) → FrameOK env Γ.ws ST → Ste cx n kp ρ σ ob (ST ++ Y) s.heap → g σ = some r → PostS cx n A env Γ z kp ρ Y Z s r Q Er → wpAny (model cx.prog cx.w) A m Q Er s
section
variable {cx : Cx} {n : Nat} {kp : KP} {k : Nat} {A : Around} {X Y Z ST : Lg} {env : Env} {sc : Sc} {ρ : Nat → Option Value} {σ : Sg} {ob : Ob} {Γ : FCtx} {z : Bool}
theorem upZ (hZ : ∀ p ∈ Z, p ∈ Y) : ∀ p ∈ ST ++ Z, p ∈ ST ++ Y := fun p hp => (List.mem_append.mp hp).elim (List.mem_append_left _) fun h => List.mem_append_right _ (hZ p h)
theorem SndS_cong {m : Sem Flow} {g g' : Sg → Option Fl} (e : ∀ σ, g σ = g' σ) (h : SndS cx n A env Γ z m g') : SndS cx n A env Γ z m g := by rw [funext e]; exact h
theorem PostS.mono {kp' : KP} {ρ' : Nat → Option Value} {s : Shared} {r : Fl} {Q : Flow → Shared → Prop} {Er : Value → Shared → Prop} {h : Heap} {tk : Nat} (p : PostS cx n A env Γ z kp ρ Y Z s r Q Er) (sb : Sub kp kp') (hz : z = true → ρ' 0 = ρ 0) :
    PostS cx n A env Γ z kp' ρ' Y Z { s with heap := h, toks := tk } r Q Er := by
  cases r with
  | next σ' => exact fun kp2 ob2 ρ2 ST2 h2 tk2 a b c d e => p kp2 ob2 ρ2 ST2 h2 tk2 (sb.trans a) (fun e => (b e).trans (hz e)) c d e
  | ret t σ' => exact fun v kp2 ob2 ρ2 ST2 o2 h2 tk2 a b c d e f => p v kp2 ob2 ρ2 ST2 o2 h2 tk2 (sb.trans a) (fun e => (b e).trans (hz e)) c d e f
  | exc m => exact fun e b kp2 ST2 ox h2 tk2 a c d f => p e b kp2 ST2 ox h2 tk2 (sb.trans a) c d f
theorem Ste.fgt : ∀ (fg : List Nat) {σ : Sg} {h : Heap}, Ste cx n kp ρ σ ob X h → Ste cx n kp ρ (fgtS fg σ) ob X h
  | [], _, _, x => x
  | i :: fg, _, _, x => Ste.fgt fg (x.forget (i := i))
theorem snds_fgt (fg : List Nat) {m : Sem Flow} {g : Sg → Option Fl} (h : SndS cx n A env Γ z m g) : SndS cx n A env Γ z m (fun σ => (g σ).bind fun r => some (fgtF fg r)) :=
  fun Y Z hZ kp ρ ST σ ob _ s Er Q V W S e q => binv (o := g σ) e fun f e1 e2 => h Y Z hZ kp ρ ST σ ob f s Er Q V W S e1 (by
    cases e2
    cases f with
    | next σ' => exact fun kp2 ob2 ρ2 ST2 h2 tk2 a b c d e => q kp2 ob2 ρ2 ST2 h2 tk2 a b c d (Ste.fgt fg e)
    | ret t σ' => exact q
    | exc m => exact q)
theorem assign_var (K : FCOK n Γ) {x : Str} {i : Nat} {v : Value} {t : T} {o : Lg} {s : Shared} {Er : Value → Shared → Prop} {Q : Unit → Shared → Prop}
    (hx : Γ.sc.vs.lookup x = some i) (hZ : ∀ p ∈ Z, p ∈ Y) (V : EnvOK A env Γ.sc ρ (ST ++ Z)) (W : FrameOK env Γ.ws ST) (w : Own cx kp v t o) (S : Ste cx n kp ρ σ ob (o ++ (ST ++ Y)) s.heap)
    (q : ∀ ob' ST' h' tk', EnvOK A env Γ.sc (upd ρ i (some v)) (ST' ++ Z) → FrameOK env Γ.ws ST' → Ste cx n kp (upd ρ i (some v)) (σ.set i (some t)) ob' (ST' ++ Y) h' → Q () { s with heap := h', toks := tk' }) :
    wpAny (model cx.prog cx.w) A (storeName env x v) Q Er s := by
  obtain ⟨hw, hi⟩ := K.ws x i hx
  refine store_sound (Z := Z) (Y := o ++ Y) ((S.perm (by exact PE.perm [_, _, _] [] (.p (.a 0) (.p (.a 1) (.a 2))) (.p (.a 1) (.p (.a 0) (.a 2))) rfl)).forget) (fun p hp => List.mem_append_right _ (hZ p hp)) V W hw hx (fun y e => K.inj x y i hx e) fun ST' h' tk S' V' W' => ?_
  have S2 := Ste.put (t := t) (o := o) (S'.perm (show (ST' ++ (o ++ Y)).Perm (o ++ (ST' ++ Y)) by exact PE.perm [_, _, _] [] (.p (.a 0) (.p (.a 1) (.a 2))) (.p (.a 1) (.p (.a 0) (.a 2))) rfl)) hi (by unfold upd; rw [if_pos rfl]) w
  rw [List.set_set] at S2
  exact q _ ST' h' tk V' W' S2
noncomputable def notComp (a : PySem.Expr) : Bool := !Nat.beq a.ctorIdx 8 && !Nat.beq a.ctorIdx 9 && !Nat.beq a.ctorIdx 10
theorem swaps_no {e : PySem.Expr} (h : notComp e = true) (t : Option PySem.Expr) (ln : Nat) (env : Env) : swapsWith e t ln env = pure false := by
  cases e <;> first | rfl | cases h
theorem snds_asg (K : FCOK n Γ) {x : Str} {i : Nat} {xp pos : Pos} {e : PySem.Expr} {g : Sg → Option (T × Sg)} (hz : z = true → i ≠ 0) (hx : Γ.sc.vs.lookup x = some i)
    (hs : swapsWith e (some (.Name x xp)) pos.line env = pure false) (h : ∀ ρ, SndM cx n A env Γ.sc ρ (eval e env) g) :
    SndS cx n A env Γ z (exec (.Assign [.Name x xp] e pos) env) (fun σ => (g σ).bind fun r => some (.next (r.2.set i (some r.1)))) := by
  intro Y Z hZ kp ρ ST σ ob r s Er Q V0 W S e q
  have V := V0.mono (upZ hZ)
  refine binv e fun w e1 ee => ?_; clear e
  obtain ⟨t, σ1⟩ := w
  cases ee
  refine wpAny_Assign_Name ?_ hs
  refine h ρ (ST ++ Y) V kp σ ob t σ1 s Er _ S e1 fun v kp1 ob1 o1 h1 tk1 sb1 w1 S1 => ?_
  refine assign_var K hx hZ V0 W w1 S1 fun ob2 ST2 h2 tk2 V2 W2 S2 => ?_
  exact q kp1 ob2 _ ST2 h2 tk2 sb1 (fun e => by unfold upd; rw [if_neg (Ne.symm (hz e))]) V2 W2 S2
theorem swaps_comp {elt : PySem.Expr} {gens : List Comprehension} {scope : Scope} {cp xp : Pos} {x : Str} {ln : Nat} :
    swapsWith (.ListComp elt gens scope cp) (some (.Name x xp)) ln env = pure true ∨ swapsWith (.ListComp elt gens scope cp) (some (.Name x xp)) ln env = pure false := by
  have : ∃ b : Bool, swapsWith (.ListComp elt gens scope cp) (some (.Name x xp)) ln env = pure b := ⟨_, rfl⟩
  obtain ⟨b, e⟩ := this
  cases b
  · exact .inr e
  · exact .inl e
noncomputable def frzIf (fz : Bool) (g : Sg → Option (T × Sg)) (σ : Sg) : Option (T × Sg) := match fz with
  | true => (g σ).bind fun r => some (.frz r.1.freeze, r.2)
  | false => g σ
theorem frzIf_inv {fz : Bool} {g : Sg → Option (T × Sg)} {w : T × Sg} {G : Prop} (e : frzIf fz g σ = some w) (k : ∀ t σ1, g σ = some (t, σ1) → w = (if fz = true then .frz t.freeze else t, σ1) → G) : G := by
  cases fz with
  | true => exact binv (o := g σ) e fun r e1 ee => k r.1 r.2 e1 (Option.some.inj ee).symm
  | false => exact k w.1 w.2 e rfl
theorem snds_asg_comp (K : FCOK n Γ) (B : Bud k A) {x y : Str} {i j : Nat} {xp yp cp pos : Pos} {scope : Scope} {iter elt : PySem.Expr} {ifs : List PySem.Expr} {fz : Bool}
    {gi : Sg → Option (List D × Sg)} {gt : Sg → Option (Bool × Sg)} {ge : Sg → Option (T × Sg)} (C : CompOK n Γ.sc scope y j) (hs : notSet iter = true)
    (hz : z = true → i ≠ 0) (hx : Γ.sc.vs.lookup x = some i)
    (hi : ∀ ρ, SndI cx n A env Γ.sc ρ (eval iter env) gi)
    (ht : ∀ cenv ρ', SndC cx n A cenv (innerSc Γ.sc scope y j) ρ' (testsM ifs cenv) gt) (he : ∀ cenv ρ', SndM cx n A cenv (innerSc Γ.sc scope y j) ρ' (eval elt cenv) ge) :
    SndS cx n A env Γ z (exec (.Assign [.Name x xp] (.ListComp elt [⟨.Name y yp, iter, ifs, 0⟩] scope cp) pos) env)
      (fun σ => (frzIf fz (gComp j gi (stepOf j gt ge)) σ).bind fun r => some (.next (r.2.set i (some r.1)))) := by
  rcases swaps_comp (env := env) (elt := elt) (gens := [⟨.Name y yp, iter, ifs, 0⟩]) (scope := scope) (cp := cp) (xp := xp) (x := x) (ln := pos.line) with hsw | hsw
  · intro Y Z hZ kp ρ ST σ ob r s Er Q V0 W S e q
    have V := V0.mono (upZ hZ)
    refine binv e fun w e1 ee => ?_; clear e
    refine frzIf_inv e1 fun t σ1 e4 ew => ?_
    cases ew
    cases ee
    rw [exec_Assign_Name_used _ _ _ _ hsw]
    refine wpAny_bind (wpAny_standAt (wpAny_bind ?_))
    show wpAny _ A (do let _ ← comprehension (.ListComp elt [⟨.Name y yp, iter, ifs, 0⟩] scope cp) scope env _ (newList []) false (eval iter env) (some (assign (.Name x xp) env))) _ _ s
    refine wpAny_bind (wpAny_mono (comp_sound (use := some (assign (.Name x xp) env)) (Q := fun _ s' => Q .next s') B C hs (hi ρ) ht he V S e4 fun h' tk kp' ob' a o Ca oC m j' sb w hn S1 => ?_) (fun _ s' hq => wpAny_pure (wpAny_pure hq)) fun _ _ e => e)
    show wpAny _ A (assign (.Name x xp) env (.ref a)) _ _ _
    refine wpAny_assign_Name ?_
    have core : ∀ kp2 t2 o2, Sub kp kp2 → Own cx kp2 (.ref a) t2 o2 → Ste cx n kp2 ρ σ1 ob' (o2 ++ (ST ++ ((Ca, oC) :: Y))) h' → t2 = (if fz = true then T.frz t.freeze else t) →
        wpAny (model cx.prog cx.w) A (storeName env x (.ref a)) (fun _ s'' => ∃ m, s''.heap.Ns Ca m ∧ ∀ h2, Heap.SameBut Ca s''.heap h2 → Q .next { s'' with heap := h2 }) Er { s with heap := h', toks := tk } := by
      intro kp2 t2 o2 sb2 w2 S2 e2
      refine assign_var K hx (Z := Z) (fun p h => .tail _ (hZ p h)) V0 W w2 S2 fun ob3 ST3 h3 tk3 V3 W3 S3 => ?_
      obtain ⟨o', g1, _, g2, _⟩ := S3.led.data (a := Ca) (o := oC) (by simp)
      refine ⟨m, ?_, fun h4 hs4 => ?_⟩
      · obtain ⟨es, ep, d, r⟩ := hn
        exact ns_of g1 (j := j') ⟨es, ep, g2.trans d, r⟩
      · subst e2
        refine q kp2 ob3 _ ST3 h4 tk3 sb2 (fun e => by unfold upd; rw [if_neg (Ne.symm (hz e))]) V3 W3 ?_
        exact Ste.cut (a := Ca) (o := oC) (S3.perm (by exact PE.perm [_, _] [_] (.p (.a 0) (.c 0 (.a 1))) (.c 0 (.p (.a 0) (.a 1))) rfl)) fun b ob hb e => hs4.extBut b ob hb e
    cases fz with
    | false => exact core kp' t o sb w (S1.perm (by exact PE.perm [_, _, _] [_] (.p (.a 0) (.c 0 (.p (.a 1) (.a 2)))) (.p (.a 0) (.p (.a 1) (.c 0 (.a 2)))) rfl)) rfl
    | true =>
      obtain ⟨kp2, sb2, r2, S2⟩ := S1.frz w
      exact core kp2 _ [] (sb.trans sb2) (of_rep r2) (S2.perm (by exact PE.perm [_, _] [_] (.c 0 (.p (.a 0) (.a 1))) (.p .n (.p (.a 0) (.c 0 (.a 1)))) rfl)) rfl
  · cases fz with
    | false => exact snds_asg (g := gComp j gi (stepOf j gt ge)) K hz hx hsw fun ρ => snd_comp B C hs (hi ρ) ht he
    | true => exact snds_asg (xp := xp) (z := z) (g := fun σ => (gComp j gi (stepOf j gt ge) σ).bind fun r => some (.frz r.1.freeze, r.2)) K hz hx hsw fun ρ => snd_frz (snd_comp B C hs (hi ρ) ht he)
theorem snds_ret {e : PySem.Expr} {pos : Pos} {g : Sg → Option (T × Sg)} (h : ∀ ρ, SndM cx n A env Γ.sc ρ (eval e env) g) :
    SndS cx n A env Γ z (exec (.Return (some e) pos) env) (fun σ => (g σ).bind fun r => some (.ret r.1 r.2)) := by
  intro Y Z hZ kp ρ ST σ ob r s Er Q V0 W S e q
  have V := V0.mono (upZ hZ)
  refine binv e fun w e1 ee => ?_; clear e
  obtain ⟨t, σ1⟩ := w
  cases ee
  refine wpAny_Return_some ?_
  refine h ρ (ST ++ Y) V kp σ ob t σ1 s Er _ S e1 fun v kp1 ob1 o1 h1 tk1 sb1 w1 S1 => ?_
  exact q v kp1 ob1 ρ ST o1 h1 tk1 sb1 (fun _ => rfl) V0 W w1 S1
theorem snds_ret_none {pos : Pos} : SndS cx n A env Γ z (exec (.Return none pos) env) (fun σ => some (.ret (.frz .none) σ)) := by
  intro Y Z hZ kp ρ ST σ ob r s Er Q V0 W S e q
  have V := V0.mono (upZ hZ)
  cases e
  exact wpAny_Return_none (q .none kp ob ρ ST [] s.heap s.toks Sub.refl (fun _ => rfl) V0 W (of_rep rfl) S)
theorem snds_nil : SndS cx n A env Γ z (execs [] env) (fun σ => some (.next σ)) := by
  intro Y Z hZ kp ρ ST σ ob r s Er Q V0 W S e q
  have V := V0.mono (upZ hZ)
  cases e
  exact wpAny_execs_nil (q kp ob ρ ST s.heap s.toks Sub.refl (fun _ => rfl) V0 W S)
theorem snds_cons {st : Stmt} {rest : List Stmt} {g gs : Sg → Option Fl} (h : SndS cx n A env Γ z (exec st env) g) (hs : SndS cx n A env Γ z (execs rest env) gs) :
    SndS cx n A env Γ z (execs (st :: rest) env) (fun σ => (g σ).bind fun q => match q with
      | .next σ => gs σ
      | .ret t σ => some (.ret t σ)
      | .exc m => some (.exc m)) := by
  intro Y Z hZ kp ρ ST σ ob r s Er Q V0 W S e q
  have V := V0.mono (upZ hZ)
  obtain ⟨f, e1, e2⟩ := Option.bind_eq_some_iff.mp e
  refine wpAny_execs_cons ?_
  cases f with
  | next σ1 =>
    refine h Y Z hZ kp ρ ST σ ob _ s Er _ V0 W S e1 fun kp1 ob1 ρ1 ST1 h1 tk1 sb1 hz1 V1 W1 S1 => ?_
    exact hs Y Z hZ kp1 ρ1 ST1 σ1 ob1 r _ Er Q V1 W1 S1 e2 (q.mono sb1 hz1)
  | ret t σ1 =>
    cases e2
    exact h Y Z hZ kp ρ ST σ ob _ s Er _ V0 W S e1 fun v kp1 ob1 ρ1 ST1 o1 h1 tk1 sb1 hz1 V1 W1 w1 S1 => q v kp1 ob1 ρ1 ST1 o1 h1 tk1 sb1 hz1 V1 W1 w1 S1
  | exc m =>
    cases e2
    exact h Y Z hZ kp ρ ST σ ob _ s Er _ V0 W S e1 q
theorem snds_iff {c : PySem.Expr} {a b : List Stmt} {pos : Pos} {gc : Sg → Option (Bool × Sg)} {ga gb : Sg → Option Fl} (hc : ∀ ρ, SndC cx n A env Γ.sc ρ (isTrue c env (eval c env)) gc)
    (ha : SndS cx n A env Γ z (execs a env) ga) (hb : SndS cx n A env Γ z (execs b env) gb) :
    SndS cx n A env Γ z (exec (.If c a b pos) env) (fun σ => (gc σ).bind fun r => if r.1 then ga r.2 else gb r.2) := by
  intro Y Z hZ kp ρ ST σ ob r s Er Q V0 W S e q
  have V := V0.mono (upZ hZ)
  obtain ⟨⟨bb, σ1⟩, e1, e2⟩ := Option.bind_eq_some_iff.mp e
  refine wpAny_If ?_
  refine hc ρ (ST ++ Y) V kp σ ob bb σ1 s Er _ S e1 fun kp1 ob1 h1 tk1 sb1 S1 => ?_
  cases bb with
  | true => exact ha Y Z hZ kp1 ρ ST σ1 ob1 r _ Er Q V0 W S1 e2 (q.mono sb1 fun _ => rfl)
  | false => exact hb Y Z hZ kp1 ρ ST σ1 ob1 r _ Er Q V0 W S1 e2 (q.mono sb1 fun _ => rfl)
end
end Mine.Internal
end
section
open PySem PySem.W
set_option maxRecDepth 10000
namespace Mine.Internal
section
variable {cx : Cx} {n : Nat} {kp : KP} {k : Nat} {A : Around} {X Y Z ST : Lg} {env : Env} {sc : Sc} {ρ : Nat → Option Value} {σ : Sg} {ob : Ob} {Γ : FCtx} {z : Bool}
theorem Ste.unfocus {i : Nat} {t : T} {v : Value} {ou rest : Lg} {h : Heap} (S : Ste cx n kp ρ σ ob X h) (e : gv σ i = some t) (hr : ρ i = some v) (pp : (ob i).Perm (ou ++ rest)) :
    Led cx kp (ou ++ (rest ++ (fl n (oset ob i []) ++ X))) h ∧
    ∀ kp' X' o' ou' t' h', Sub kp kp' → o'.Perm (ou' ++ rest) → Own cx kp' v t' o' → Led cx kp' (ou' ++ (rest ++ (fl n (oset ob i []) ++ X'))) h' → Ste cx n kp' ρ (σ.set i (some t')) (oset ob i o') X' h' := by
  have hi : i < n := S.len ▸ gv_lt e
  refine ⟨S.led.perm ?_, fun kp' X' o' ou' t' h' sb p w L => ?_⟩
  · refine ((fl_split hi).append_right X).trans ?_
    refine ((pp.append_right _).append_right _).trans ?_
    exact PE.perm [_, _, _, _] [] (.p (.p (.p (.a 0) (.a 1)) (.a 2)) (.a 3)) (.p (.a 0) (.p (.a 1) (.p (.a 2) (.a 3)))) rfl
  · obtain ⟨_, _, _, S2⟩ := S.take e
    have S3 : Ste cx n kp' ρ (σ.set i none) (oset ob i []) (o' ++ X') h' := ⟨L.perm (by
      have : (o' ++ (fl n (oset ob i []) ++ X')).Perm ((ou' ++ rest) ++ (fl n (oset ob i []) ++ X')) := p.append_right _
      refine List.Perm.trans ?_ (List.perm_append_comm_assoc _ _ _)
      refine List.Perm.trans ?_ this.symm
      exact PE.perm [_, _, _, _] [] (.p (.a 0) (.p (.a 1) (.p (.a 2) (.a 3)))) (.p (.p (.a 0) (.a 1)) (.p (.a 2) (.a 3))) rfl), S2.vars.le sb.le, S2.len⟩
    have S4 := S3.put (t := t') hi hr w
    rw [List.set_set, oset_oset] at S4
    exact S4
theorem store_any {σ : Sg} {st : St} {v : T} : store σ st v (.frz .any) = none := by
  cases st with
  | attr nm => rfl
  | item p => show (pv σ p).bind _ = none; cases pv σ p <;> rfl
theorem append_any {v : T} : appendT v (.frz .any) = none := rfl
noncomputable def chkSt (sc : Sc) (i : Nat) (path : List St) (st : St) (a : PySem.Expr) : Bool := match st with
  | .attr nm => tst (xAttr a) fun q => q.2.1 == Str.ofString nm && (attrNames.contains nm || nm == "shared") && chkPath sc i path q.1
  | .item p => tst (xSub a) fun q => notSlice q.2.1 && chkP sc p q.2.1 && chkPath sc i path q.1
theorem swaps_attr {e o : PySem.Expr} {m : Str} {tp : Pos} {ln : Nat} : swapsWith e (some (.Attribute o m tp)) ln env = pure false := by cases e <;> rfl
theorem swaps_sub {e o ix : PySem.Expr} {tp : Pos} {ln : Nat} : swapsWith e (some (.Subscript o ix tp)) ln env = pure false := by cases e <;> rfl
theorem snds_set (H : All cx) (B : Bud k A) {i : Nat} {path : List St} {last : St} {tgt e : PySem.Expr} {pos : Pos} {g : Sg → Option (T × Sg)} (hc : chkSt Γ.sc i path last tgt = true) (h : ∀ ρ, SndM cx n A env Γ.sc ρ (eval e env) g) :
    SndS cx n A env Γ z (exec (.Assign [tgt] e pos) env) (fun σ => (g σ).bind fun r => (gv r.2 i).bind fun t => (updP r.2 path (store r.2 last r.1) t).bind fun t' => some (.next (r.2.set i (some t')))) := by
  intro Y Z hZ kp ρ ST σ ob r s Er Q V0 W S e q
  have V := V0.mono (upZ hZ)
  refine binv e fun w e1 e' => binv e' fun t0 e2 e' => binv e' fun t1 e3 ee => ?_; clear e
  obtain ⟨t, σ1⟩ := w
  cases ee
  have main : ∀ (o : PySem.Expr), chkPath Γ.sc i path o = true → ∀ v kp1 ob1 o1 h1 tk1, Sub kp kp1 → Own cx kp1 v t o1 → Ste cx n kp1 ρ σ1 ob1 (o1 ++ (ST ++ Y)) h1 → ∀ Q',
      (∀ w u u' ou rest h2 tk2, store σ1 last t u = some u' → Own cx kp1 w u ou → Ste cx n kp1 ρ σ1 ob1 (o1 ++ (ST ++ Y)) h2 → (∀ h3, Gr h2 h3 → Led cx kp1 (ou ++ (o1 ++ rest)) h3 ∧ ∀ h4 tk4 ou', Own cx kp1 w u' ou' → Led cx kp1 (ou' ++ rest) h4 → Q .next { s with heap := h4, toks := tk4 }) → Q' w { s with heap := h2, toks := tk2 }) →
      wpAny (model cx.prog cx.w) A (eval o env) Q' Er { s with heap := h1, toks := tk1 } := fun o hp v kp1 ob1 o1 h1 tk1 sb1 w1 S1 Q' qq => by
    obtain ⟨vv, hr, w0⟩ := S1.vars i t0 e2
    refine focus H B (V.add (Y := o1)) hp store_any e2 hr (S1.len ▸ gv_lt e2) w0 e3 fun w u u' ou rest fu pp wu back walk => ?_
    refine walk _ Er _ S1 fun h2 tk2 g2 => ?_
    refine qq w u u' ou (rest ++ (fl n (oset ob1 i []) ++ (ST ++ Y))) h2 tk2 fu wu (S1.grow g2) fun h3 g3 => ?_
    obtain ⟨L2, un⟩ := ((S1.grow g2).grow g3).unfocus e2 hr pp
    refine ⟨L2.perm (by exact PE.perm [_, _, _, _, _, _] [] (.p (.a 0) (.p (.a 1) (.p (.a 2) (.p (.a 3) (.p (.a 4) (.a 5)))))) (.p (.a 0) (.p (.a 3) (.p (.a 1) (.p (.a 2) (.p (.a 4) (.a 5)))))) rfl), fun h4 tk4 ou' wu' L4 => ?_⟩
    obtain ⟨o', p', w'⟩ := back kp1 ou' Sub.refl wu'
    exact q kp1 _ ρ ST h4 tk4 sb1 (fun _ => rfl) V0 W (un kp1 (ST ++ Y) o' ou' t1 h4 Sub.refl p' w' L4)
  cases last with
  | attr nm =>
    refine attrE (a := tgt) hc fun o m tp hc => ?_
    cases eq_of_beq (and1 (and1 hc))
    have hA : ∀ c, AttrOK cx.K (cx.cA c) (Str.ofString nm) = true := ((Bool.or_eq_true _ _).mp (and2 (and1 hc))).elim (fun hn c => H.cls.attr c _ (mem_of hn)) fun hn => eq_of_beq hn ▸ H.cls.shared
    refine plainObj_wpAny_Assign_Attribute ?_ swaps_attr
    refine h ρ (ST ++ Y) V kp σ ob t σ1 s Er _ S e1 fun v kp1 ob1 o1 h1 tk1 sb1 w1 S1 => ?_
    refine main o (and2 hc) v kp1 ob1 o1 h1 tk1 sb1 w1 S1 _ fun w u u' ou rest h2 tk2 fu wu _ fin => ?_
    refine binv (o := asOi u) fu fun qq f1 f2 => ifv f2 fun hh ee => ?_
    cases asOi_inv f1; cases ee
    obtain ⟨L3, fin2⟩ := fin h2 Gr.refl
    exact store_attr (s := { s with heap := h2, toks := tk2 }) H L3 wu (dec1 (and1 hh)) (and2 hh) (hA _) w1 fun h3 tk3 ou' wu' L4 => fin2 h3 tk3 ou' wu' L4
  | item p =>
    refine subE (a := tgt) hc fun o ix tp hc => ?_
    refine wpAny_Assign_Subscript ?_ swaps_sub
    refine h ρ (ST ++ Y) V kp σ ob t σ1 s Er _ S e1 fun v kp1 ob1 o1 h1 tk1 sb1 w1 S1 => ?_
    refine main o (and2 hc) v kp1 ob1 o1 h1 tk1 sb1 w1 S1 _ fun w u u' ou rest h2 tk2 fu wu S2 fin => ?_
    refine binv (o := pv σ1 p) fu fun kv f1 f2 => ?_
    refine pv_sound H B (V.add (Y := o1)) _ _ _ (and2 (and1 hc)) f1 { s with heap := h2, toks := tk2 } Er _ S2 fun iv h3 tk3 g3 wi => ?_
    obtain ⟨L3, fin2⟩ := fin h3 g3
    cases u with
    | frz d => exact nos f2
    | oinst c fs => exact nos f2
    | olist ts =>
      refine binv (o := asInt kv) f2 fun j f3 f4 => binv f4 fun jn f5 f6 => ifv f6 fun hh ee => ?_
      cases ee
      obtain ⟨i0, i1, rfl⟩ := idx_inv f5
      refine wi.intE f3 fun tt => ?_
      exact store_olist (s := { s with heap := h3, toks := tk3 }) L3 wu i0 i1 hh w1 fun h4 tk4 ou' wu' L4 => fin2 h4 tk4 ou' wu' L4
    | odict kvs =>
      refine binv (o := asStr kv) f2 fun j f3 f4 => ifv f4 fun hh ee => ?_
      cases ee
      refine wi.strE f3 fun tt => ?_
      exact store_odict (s := { s with heap := h3, toks := tk3 }) L3 wu (dec1 (and1 hh)) (and1 (and2 hh)) (dec1 (and2 (and2 hh))) w1 fun h4 tk4 ou' wu' L4 => fin2 h4 tk4 ou' wu' L4
    | oidict kvs =>
      refine binv (o := asInt kv) f2 fun j f3 f4 => ifv f4 fun hh f5 => binv (o := asD t) f5 fun d f6 ee => ?_
      cases ee; cases asD_inv f6
      obtain ⟨rfl, rd⟩ := own_frz w1
      refine wi.intE f3 fun tt => ?_
      exact store_oidict (s := { s with heap := h3, toks := tk3 }) L3 wu (dec1 (and1 hh)) (Option.isNone_iff_eq_none.mp (and2 hh)) rd fun h4 tk4 ou' wu' L4 => fin2 h4 tk4 ou' wu' L4
theorem Led.share {l : Lg} {h h' : Heap} {d : Addr} {od o2 : Obj} {m : Str → Option Value} {j : Nat} {v : Value} (L : Led cx kp l h) (e : kp d = some od) (hb : cx.base.get? d = none) (ns : NsObj od m j) (hm : (m "shared").isSome = true)
    (hs : Heap.SameBut d h h') (h2 : h'.get? d = some o2) (hn : ∀ o', h.get? d = some o' → ∀ m' j', NsObj o' m' j' → NsObj o2 (fun y => if y = "shared" then some v else m' y) (if (m' "shared").isSome then j' else j' + 1)) : Led cx kp l h' := by
  have nl : ∀ p ∈ l, p.1 ≠ d := fun p hp q => by have w := L.apart p hp; rw [q, e] at w; cases w
  refine ⟨fun a o ea => ?_, fun p hp => ?_, L.nodup, L.apart, L.base, fun a o ea => (hs.2 a (fun q => by rw [q, hb] at ea; cases ea)).trans (L.sub a o ea)⟩
  · by_cases q : a = d
    · subst q
      rw [e] at ea; cases ea
      refine ⟨o2, h2, .inr ?_⟩
      obtain ⟨o', e1, e2⟩ := L.kept a _ e
      rcases e2 with rfl | ⟨m1, m1', k1, n1, n1', i1, i2, h1⟩
      · refine ⟨m, (fun y => if y = "shared" then some v else m y), j, ns, fun k hk => ?_, hm, ?_, fun n hn' => ?_⟩
        · have := hn _ e1 m k hk
          rw [if_pos hm] at this; exact this
        · simp
        · simp [hn']
      · refine ⟨m1, (fun y => if y = "shared" then some v else m1' y), k1, n1, fun k hk => ?_, i1, by simp, fun n hn' => by simp [hn', h1 n hn']⟩
        have := hn _ e1 m1' k (n1' k hk)
        rw [if_pos i2] at this; exact this
    · obtain ⟨o', e1, e2⟩ := L.kept a o ea
      exact ⟨o', (hs.2 a q).trans e1, e2⟩
  · obtain ⟨o', e1, e2⟩ := L.objs p hp
    exact ⟨o', (hs.2 _ (nl p hp)).trans e1, e2⟩
theorem RepF.some {m : Str → Option Value} {nm : String} : ∀ {fs : List (String × D)} {d : D}, RepF cx kp m fs → fs.lookup nm = some d → (m (Str.ofString nm)).isSome = true
  | [], _, _, e => nos e
  | (x, t) :: fs, d, r, e => lookE e (fun c _ => by
      obtain ⟨v, h, _⟩ := r.1
      rw [c, h]; rfl) fun c e => RepF.some r.2 e
theorem snds_setany (H : All cx) {i : Nat} {x : Str} {xp tp pos : Pos} {e : PySem.Expr} {g : Sg → Option (T × Sg)} (hx : Γ.sc.vs.lookup x = some i) (hb : badName x = false) (h : ∀ ρ, SndM cx n A env Γ.sc ρ (eval e env) g)
    (hj : ∀ c, AttrOK cx.K (cx.cA c) "shared" = true) :
    SndS cx n A env Γ z (exec (.Assign [.Attribute (.Name x xp) "shared" tp] e pos) env) (fun σ => (g σ).bind fun r => (gv r.2 i).bind fun t => (asD t).bind fun d => d.inst?.bind fun q => (q.2.lookup "shared").bind fun d => d.any?.bind fun _ => some (.next r.2)) := by
  intro Y Z hZ kp ρ ST σ ob r s Er Q V0 W S e q
  have V := V0.mono (upZ hZ)
  refine binv e fun w e1 e' => binv e' fun t0 e2 e' => binv e' fun dd e3 e' => binv (o := dd.inst?) e' fun qi e4 e' => binv e' fun da hl e' => binv (o := da.any?) e' fun _ e5 ee => ?_; clear e
  obtain ⟨t, σ1⟩ := w
  cases ee; cases asD_inv e3; cases D.inst_inv e4; cases D.any_inv e5
  refine plainObj_wpAny_Assign_Attribute ?_ swaps_attr
  refine h ρ (ST ++ Y) V kp σ ob t σ1 s Er _ S e1 fun v kp1 ob1 o1 h1 tk1 sb1 w1 S1 => ?_
  obtain ⟨vv, hr, w0⟩ := S1.vars i _ e2
  obtain ⟨_, r0⟩ := own_frz w0
  obtain ⟨a, d, od, m, j, rfl, k1, k2, b0, ns, rf⟩ := r0
  refine name_sound S1.led (V.add (Y := o1)) (badName_of hb).1 (badName_of hb).2 hx hr ?_
  obtain ⟨o', m', g1, g2, g3⟩ := S1.led.keptNs k2 ns
  refine setattr_sound H.ok S1.led (hj qi.1) (S1.led.keptInst k1) g1 g2 (Nat.le_trans b0.2 (by decide)) fun h2 o2 tk2 hs g4 _ hns => ?_
  have L2 := S1.led.share k2 b0.1 ns (rf.some hl) hs g4 fun o3 e3 => by cases g1.symm.trans e3; exact hns
  refine q kp1 ob1 ρ ST h2 tk2 sb1 (fun _ => rfl) V0 W (Ste.dropX (X := o1) ⟨L2, S1.vars, S1.len⟩)
end
end Mine.Internal
end
section
open PySem PySem.W
set_option maxRecDepth 10000
namespace Mine.Internal
section
variable {cx : Cx} {n : Nat} {kp : KP} {k : Nat} {A : Around} {X Y Z ST : Lg} {env : Env} {sc : Sc} {ρ : Nat → Option Value} {σ : Sg} {ob : Ob} {Γ : FCtx} {z : Bool}
theorem expr_stmt {e : PySem.Expr} {pos : Pos} {s : Shared} {Er : Value → Shared → Prop} {Q : Flow → Shared → Prop} (hn : notComp e = true) (hi : interactive env = false)
    (h : wpAny (model cx.prog cx.w) A (eval e env) (fun _ => Q .next) Er s) : wpAny (model cx.prog cx.w) A (exec (.Expr e pos) env) Q Er s := by
  rw [exec_Expr env e pos hi (swaps_no hn _ _ _)]
  exact wpAny_bind (wpAny_standAt (wpAny_bind (wpAny_mono h (fun v s' h' => wpAny_dropValue h') fun _ _ x => x)))
theorem snds_ex {e : PySem.Expr} {pos : Pos} {g : Sg → Option (T × Sg)} (hn : notComp e = true) (hi : interactive env = false) (h : ∀ ρ, SndM cx n A env Γ.sc ρ (eval e env) g) :
    SndS cx n A env Γ z (exec (.Expr e pos) env) (fun σ => (g σ).bind fun r => (asD r.1).bind fun d => d.none?.bind fun _ => some (.next r.2)) := by
  intro Y Z hZ kp ρ ST σ ob r s Er Q V0 W S e q
  have V := V0.mono (upZ hZ)
  refine binv e fun w e1 e' => binv e' fun d e2 e' => binv (o := d.none?) e' fun _ e3 ee => ?_; clear e
  obtain ⟨t, σ1⟩ := w
  cases ee; cases asD_inv e2; cases D.none_inv e3
  refine expr_stmt hn hi (h ρ (ST ++ Y) V kp σ ob _ _ s Er _ S e1 fun v kp1 ob1 o1 h1 tk1 sb1 w1 S1 => ?_)
  cases (own_frz w1).1
  exact q kp1 ob1 ρ ST h1 tk1 sb1 (fun _ => rfl) V0 W S1
theorem appendT_inv {v u u' : T} (e : appendT v u = some u') : ∃ ts, u = .olist ts ∧ ts.length ≤ 1000 ∧ u' = .olist (ts ++ [v]) := by
  refine binv (o := asOl u) e fun ts e1 e2 => ifv e2 fun h ee => ?_
  cases ee
  exact ⟨ts, asOl_inv e1, h, rfl⟩
theorem append_own {s : Shared} {w v : Value} {ts : List T} {t : T} {ou ov : Lg} {h : Heap} (L : Led cx kp (ou ++ (ov ++ Z)) h) (wu : Own cx kp w (.olist ts) ou) (wv : Own cx kp v t ov) (hl : ts.length ≤ 1000) :
    ∃ (a : Addr) (vs : List Value) (m : Nat), w = .ref a ∧ vs.length ≤ 1000 ∧ IsL h a vs.toArray m ∧ ∃ ou', Own cx kp w (.olist (ts ++ [t])) ou' ∧ Led cx kp (ou' ++ Z) (h.update a (Obj.mapSeq fun xs => xs.push v)) := by
  obtain ⟨a, vs, m, r, rfl, rfl, wl⟩ := wu
  have g1 := L.get (a := a) (o := lobj vs m) (.head _) lst_nf
  obtain ⟨hs, m', g2⟩ := list_upd (fun xs => xs.push v) g1
  refine ⟨a, vs, m, rfl, ownL_length wl ▸ hl, g1, (a, lobj (vs ++ [v]) m') :: (r ++ ov), ?_, ?_⟩
  · refine ⟨a, vs ++ [v], m', r ++ ov, rfl, rfl, ownL_join wl ?_⟩
    exact ⟨v, [], ov, [], rfl, (List.append_nil ov).symm, wv, rfl, rfl⟩
  · rw [Array.toList_push] at g2
    exact ((L.perm (show ((a, lobj vs m) :: r ++ (ov ++ Z)).Perm ((a, lobj vs m) :: ((r ++ ov) ++ Z)) by exact PE.perm [_, _, _] [_] (.p (.c 0 (.a 0)) (.p (.a 1) (.a 2))) (.c 0 (.p (.p (.a 0) (.a 1)) (.a 2))) rfl)).set hs g2).perm (by exact PE.perm [_, _, _] [_] (.c 0 (.p (.p (.a 0) (.a 1)) (.a 2))) (.p (.c 0 (.p (.a 0) (.a 1))) (.a 2)) rfl)
theorem isOl_inv {x : Option T} {u : Unit} (e : isOl x = some u) : ∃ ts, x = some (.olist ts) := by
  refine binv e fun t e1 e2 => binv (o := asOl t) e2 fun ts e3 _ => ?_
  exact ⟨ts, e1.trans (congrArg _ (asOl_inv e3))⟩
theorem Ste.isList {i : Nat} {ts : List T} {h : Heap} (S : Ste cx n kp ρ σ ob X h) (e : gv σ i = some (.olist ts)) : ∃ (a : Addr) (vs : List Value) (m : Nat), ρ i = some (.ref a) ∧ h.get? a = some (lobj vs m) ∧ vs.length = ts.length := by
  obtain ⟨v, hr, w⟩ := S.vars i _ e
  have hi : i < n := S.len ▸ gv_lt e
  obtain ⟨a, vs, m, r, rfl, ho, wl⟩ := w
  exact ⟨a, vs, m, hr, S.led.get (S.slotMem hi _ (by rw [ho]; exact .head _)) lst_nf, ownL_length wl⟩
theorem two_k {n : Nat} (h : n ≤ 1000) : n ≤ sizeLine := by rw [sizeLine_eq]; lia
theorem snds_app (H : All cx) {i : Nat} {x : Str} {xp apos cpos pos : Pos} {e : PySem.Expr} {g : Sg → Option (T × Sg)} (hx : Γ.sc.vs.lookup x = some i) (hb : badName x = false) (hs : noStar e = true) (hl : (apos.endLine == cpos.line) = true)
    (hi : interactive env = false) (h : ∀ ρ, SndM cx n A env Γ.sc ρ (eval e env) g) :
    SndS cx n A env Γ z (exec (.Expr (.Call (.Attribute (.Name x xp) "append" apos) [e] [] cpos) pos) env) (fun σ => (isOl (gv σ i)).bind fun _ => (g σ).bind fun r => (gv r.2 i).bind fun t => (appendT r.1 t).bind fun t' => some (.next (r.2.set i (some t')))) := by
  intro Y Z hZ kp ρ ST σ ob r s Er Q V0 W S e q
  have V := V0.mono (upZ hZ)
  refine binv e fun _ e0 e' => binv e' fun w e1 e' => binv e' fun t0 e2 e' => binv e' fun t1 e3 ee => ?_; clear e
  obtain ⟨t, σ1⟩ := w
  cases ee
  obtain ⟨ts0, e0⟩ := isOl_inv e0
  obtain ⟨ts, rfl, hlen, rfl⟩ := appendT_inv e3
  obtain ⟨a, vs, m, hr, g0, _⟩ := S.isList e0
  refine expr_stmt rfl hi (meth1 rfl hs hl (name_sound S.led V (badName_of hb).1 (badName_of hb).2 hx hr ?_))
  refine ⟨"list", "list.append", F.plainAttrs_list, F.slot_list_append, F.type_list_append, ⟨_, g0, rfl⟩, fun b e => by cases e; exact ⟨_, g0, rfl⟩, ?_⟩
  refine P.append_list (h ρ (ST ++ Y) V kp σ ob _ σ1 s Er _ S e1 fun v kp1 ob1 o1 h1 tk1 sb1 w1 S1 => ?_)
  obtain ⟨vv, hr1, w0⟩ := S1.vars i _ e2
  rw [hr] at hr1; cases hr1
  obtain ⟨L1, un⟩ := S1.unfocus (ou := ob1 i) (rest := []) e2 hr (by rw [List.append_nil])
  obtain ⟨a', vs', m', ea, hv, gl, ou', wu', L2⟩ := append_own (s := s) (L1.perm (show (ob1 i ++ ([] ++ (fl n (oset ob1 i []) ++ (o1 ++ (ST ++ Y))))).Perm (ob1 i ++ (o1 ++ (fl n (oset ob1 i []) ++ (ST ++ Y)))) by exact PE.perm [_, _, _, _, _] [] (.p (.a 0) (.p .n (.p (.a 1) (.p (.a 2) (.p (.a 3) (.a 4)))))) (.p (.a 0) (.p (.a 2) (.p (.a 1) (.p (.a 3) (.a 4))))) rfl)) w0 w1 hlen
  cases ea
  refine ⟨vs'.toArray, m', two_k hv, gl, ?_⟩
  exact q kp1 _ ρ ST _ tk1 sb1 (fun _ => rfl) V0 W (un kp1 (ST ++ Y) ou' ou' _ _ Sub.refl (by rw [List.append_nil]) wu' L2)
theorem snds_appA (H : All cx) {i : Nat} {x m : Str} {nm : String} {xp ap apos cpos pos : Pos} {e : PySem.Expr} {g : Sg → Option (T × Sg)} (hx : Γ.sc.vs.lookup x = some i) (hb : badName x = false) (hs : noStar e = true) (hl : (apos.endLine == cpos.line) = true)
    (hm : m = Str.ofString nm) (hn : nm ∈ attrNames) (hi : interactive env = false) (h : ∀ ρ, SndM cx n A env Γ.sc ρ (eval e env) g) :
    SndS cx n A env Γ z (exec (.Expr (.Call (.Attribute (.Attribute (.Name x xp) m ap) "append" apos) [e] [] cpos) pos) env) (fun σ => (gv σ i).bind fun t => (g (σ.set i none)).bind fun r => (upd1 r.2 (.attr nm) (appendT r.1) t).bind fun t' => some (.next (r.2.set i (some t')))) := by
  intro Y Z hZ kp ρ ST σ ob r s Er Q V0 W S e q
  have V := V0.mono (upZ hZ)
  subst hm
  refine binv e fun t0 e0 e' => binv e' fun w e1 e' => binv e' fun t1 e2 ee => binv (o := asOi t0) e2 fun qi e3a e' => binv e' fun u e3 e' => binv (o := appendT w.1 u) e' fun u' e4 ef => ?_; clear e e2
  obtain ⟨t, σ1⟩ := w
  obtain ⟨c, fs⟩ := qi
  cases ee; cases ef; cases asOi_inv e3a
  obtain ⟨ts, rfl, hlen, rfl⟩ := appendT_inv e4
  obtain ⟨v0, hr, w0, S0⟩ := S.take e0
  have hin : i < n := S.len ▸ gv_lt e0
  have w0' := w0
  obtain ⟨a, d, od, mm, rr, rfl, ho, hb0, hc', ns, wf⟩ := w0
  obtain ⟨w, ou, rest, a1, a2, a3, a4⟩ := ownF_focus wf e3
  have g1 : s.heap.get? a = some (instObj (cx.cA c) d) := S.led.get (S.slotMem hin _ (by rw [ho]; exact .head _)) ref_nf
  have g2 : s.heap.get? d = some od := S.led.get (S.slotMem hin _ (by rw [ho]; exact .tail _ (.head _))) (by rw [hc']; exact dct_nf)
  have a3' := a3
  obtain ⟨b, vs, k, r3, rfl, ho3, wl⟩ := a3
  have g3 : s.heap.get? b = some (lobj vs k) := S.led.get (S.slotMem hin _ (by rw [ho]; exact .tail _ (.tail _ (a2.mem_iff.mpr (by rw [ho3]; exact .head _))))) lst_nf
  refine expr_stmt rfl hi (meth1 rfl hs hl (attr_ast rfl (name_sound S.led V (badName_of hb).1 (badName_of hb).2 hx hr ?_)))
  refine attr_core H.ok S.led (H.cls.attr c _ hn) g1 rfl rfl rfl g2 ns a1 (own_handed a3' nofun) ?_
  refine ⟨"list", "list.append", F.plainAttrs_list, F.slot_list_append, F.type_list_append, ⟨_, g3, rfl⟩, fun b e => by cases e; exact ⟨_, g3, rfl⟩, ?_⟩
  refine P.append_list (h ρ _ (V.add (Y := ob i)) kp _ _ _ σ1 { s with toks := s.toks + 1 } Er _ S0 e1 fun v kp1 ob1 o1 h1 tk1 sb1 w1 S1 => ?_)
  have L1 : Led cx kp1 (ou ++ (o1 ++ ((a, instObj (cx.cA c) d) :: (d, od) :: (rest ++ (fl n ob1 ++ (ST ++ Y)))))) h1 := S1.led.perm (by
    rw [ho]
    have : (fl n ob1 ++ (o1 ++ ((a, instObj (cx.cA c) d) :: (d, od) :: rr ++ (ST ++ Y)))).Perm (rr ++ ((a, instObj (cx.cA c) d) :: (d, od) :: (fl n ob1 ++ (o1 ++ (ST ++ Y))))) := by exact PE.perm [_, _, _, _, _] [_, _] (.p (.a 0) (.p (.a 1) (.p (.c 1 (.c 0 (.a 2))) (.p (.a 3) (.a 4))))) (.p (.a 2) (.c 1 (.c 0 (.p (.a 0) (.p (.a 1) (.p (.a 3) (.a 4))))))) rfl
    refine this.trans ((a2.append_right _).trans ?_)
    exact PE.perm [_, _, _, _, _, _] [_, _] (.p (.p (.a 0) (.a 1)) (.c 1 (.c 0 (.p (.a 2) (.p (.a 3) (.p (.a 4) (.a 5))))))) (.p (.a 0) (.p (.a 3) (.c 1 (.c 0 (.p (.a 1) (.p (.a 2) (.p (.a 4) (.a 5)))))))) rfl)
  obtain ⟨b', vs', k', eb, hv, gl, ou', wu', L2⟩ := append_own (s := s) L1 (a3'.le sb1.le) w1 hlen
  cases eb
  refine ⟨vs'.toArray, k', two_k hv, gl, ?_⟩
  obtain ⟨o', p, wf'⟩ := a4 kp1 _ ou' sb1 wu'
  have w' : Own cx kp1 (.ref a) (.oinst c (setL nm (.olist (ts ++ [t])) fs)) ((a, instObj (cx.cA c) d) :: (d, od) :: o') := by
    refine ⟨a, d, od, mm, o', rfl, rfl, ⟨hb0.1, by rw [setL_has e3]; exact hb0.2⟩, hc', ns.mono setL_ge, wf'⟩
  have S2 : Ste cx n kp1 ρ σ1 ob1 (((a, instObj (cx.cA c) d) :: (d, od) :: o') ++ (ST ++ Y)) _ := ⟨L2.perm (by
    have : (ou' ++ ((a, instObj (cx.cA c) d) :: (d, od) :: (rest ++ (fl n ob1 ++ (ST ++ Y))))).Perm ((ou' ++ rest) ++ ((a, instObj (cx.cA c) d) :: (d, od) :: (fl n ob1 ++ (ST ++ Y)))) := by exact PE.perm [_, _, _, _, _] [_, _] (.p (.a 0) (.c 1 (.c 0 (.p (.a 1) (.p (.a 2) (.p (.a 3) (.a 4))))))) (.p (.p (.a 0) (.a 1)) (.c 1 (.c 0 (.p (.a 2) (.p (.a 3) (.a 4)))))) rfl
    refine this.trans ((p.symm.append_right _).trans ?_)
    exact PE.perm [_, _, _, _] [_, _] (.p (.a 0) (.c 1 (.c 0 (.p (.a 1) (.p (.a 2) (.a 3)))))) (.p (.a 1) (.p (.c 1 (.c 0 (.a 0))) (.p (.a 2) (.a 3)))) rfl), S1.vars, S1.len⟩
  exact q kp1 _ ρ ST _ tk1 sb1 (fun _ => rfl) V0 W (S2.put hin hr w')
theorem snds_ext (H : All cx) {i : Nat} {x : Str} {xp apos cpos pos : Pos} {e : PySem.Expr} {g : Sg → Option (T × Sg)} (hx : Γ.sc.vs.lookup x = some i) (hb : badName x = false) (hs : noStar e = true) (hl : (apos.endLine == cpos.line) = true)
    (hi : interactive env = false) (h : ∀ ρ, SndM cx n A env Γ.sc ρ (eval e env) g) :
    SndS cx n A env Γ z (exec (.Expr (.Call (.Attribute (.Name x xp) "extend" apos) [e] [] cpos) pos) env) (fun σ => (isOl (gv σ i)).bind fun _ => (g σ).bind fun r => (asL r.1).bind fun l => (gv r.2 i).bind fun t => (asOl t).bind fun ts => if ts.length + l.length ≤ 1000 then some (.next (r.2.set i (some (.olist (ts ++ l.map .frz))))) else none) := by
  intro Y Z hZ kp ρ ST σ ob r s Er Q V0 W S e q
  have V := V0.mono (upZ hZ)
  refine binv e fun _ e0 e' => binv e' fun w e1 e' => binv e' fun l e2 e' => binv e' fun t0 e3 e' => binv (o := asOl t0) e' fun ts e4 e' => ifv e' fun hlen ee => ?_; clear e
  obtain ⟨t, σ1⟩ := w
  cases ee; cases asL_inv e2; cases asOl_inv e4
  obtain ⟨ts0, e0⟩ := isOl_inv e0
  obtain ⟨a, vs, m, hr, g0, _⟩ := S.isList e0
  refine expr_stmt rfl hi (meth1 rfl hs hl (name_sound S.led V (badName_of hb).1 (badName_of hb).2 hx hr ?_))
  refine ⟨"list", "list.extend", F.plainAttrs_list, F.slot_list_extend, F.type_list_extend, ⟨_, g0, rfl⟩, fun b e => by cases e; exact ⟨_, g0, rfl⟩, ?_⟩
  refine P.extend_list (h ρ (ST ++ Y) V kp σ ob _ σ1 s Er _ S e1 fun v kp1 ob1 o1 h1 tk1 sb1 w1 S1 => ?_)
  obtain ⟨rfl, r1⟩ := own_frz w1
  obtain ⟨b, ws, mb, rfl, kb, rl⟩ := r1
  obtain ⟨vv, hr1, w0⟩ := S1.vars i _ e3
  rw [hr] at hr1; cases hr1
  obtain ⟨L1, un⟩ := S1.unfocus (ou := ob1 i) (rest := []) e3 hr (by rw [List.append_nil])
  obtain ⟨a', vs', m', rr, ea, ho, wl⟩ := w0
  cases ea
  rw [ho] at L1
  have gl := L1.get (a := a) (o := lobj vs' m') (.head _) lst_nf
  have len := ownL_length wl
  have len2 := rl.length
  refine ⟨b, vs'.toArray, ws.toArray, m', mb, by simp only [List.size_toArray, sizeLine_eq]; lia, by simp only [List.size_toArray, sizeLine_eq]; lia, ?_, rfl, gl, S1.led.keptSeq kb rfl, ?_⟩
  · have : Builtin.List.listTooLong (vs'.toArray.size + ws.toArray.size) = false := by
      simp only [Builtin.List.listTooLong, List.size_toArray, decide_eq_false_iff_not, Nat.not_lt, sizeLine_eq]
      lia
    rw [this]; simp
  · obtain ⟨hsb, m2, g2⟩ := list_upd (fun xs => xs ++ ws.toArray) gl
    rw [Array.toList_append] at g2
    have w2 : Own cx kp1 (.ref a) (.olist (ts ++ l.map .frz)) ((a, lobj (vs' ++ ws) m2) :: rr) := by
      refine ⟨a, vs' ++ ws, m2, rr, rfl, rfl, ?_⟩
      have := ownL_join wl rl.own
      rwa [List.append_nil] at this
    exact q kp1 _ ρ ST _ tk1 sb1 (fun _ => rfl) V0 W (un kp1 (ST ++ Y) _ ((a, lobj (vs' ++ ws) m2) :: rr) _ _ Sub.refl (by rw [List.append_nil]) w2 (Led.set (l := rr ++ ([] ++ (fl n (oset ob1 i []) ++ (ST ++ Y)))) L1 hsb g2))
theorem repL_rev : ∀ {ds : List D} {vs : List Value}, RepL cx kp vs ds → RepL cx kp vs.reverse ds.reverse
  | [], vs, r => by cases r; rfl
  | d :: ds, vs, r => by
    obtain ⟨v, q, rfl, x, y⟩ := r
    rw [List.reverse_cons, List.reverse_cons]
    exact repL_append (repL_rev y) ⟨v, [], rfl, x, rfl⟩
theorem snds_rev (H : All cx) {i : Nat} {x : Str} {xp apos cpos pos : Pos} (hx : Γ.sc.vs.lookup x = some i) (hb : badName x = false) (hl : (apos.endLine == cpos.line) = true) (hi : interactive env = false) :
    SndS cx n A env Γ z (exec (.Expr (.Call (.Attribute (.Name x xp) "reverse" apos) [] [] cpos) pos) env) (fun σ => (gv σ i).bind fun t => (asOl t).bind fun ts => if ts.length ≤ 1000 then (allD ts).bind fun ds => some (.next (σ.set i (some (.olist (ds.reverse.map .frz))))) else none) := by
  intro Y Z hZ kp ρ ST σ ob r s Er Q V0 W S e q
  have V := V0.mono (upZ hZ)
  refine binv e fun t0 e0 e' => binv (o := asOl t0) e' fun ts e1 e' => ifv e' fun hlen e' => binv e' fun ds e5 ee => ?_; clear e
  cases ee; cases asOl_inv e1
  obtain ⟨vv, hr, w0⟩ := S.vars i _ e0
  obtain ⟨L1, un⟩ := S.unfocus (ou := ob i) (rest := []) e0 hr (by rw [List.append_nil])
  obtain ⟨a, vs, m, rr, rfl, ho, wl⟩ := w0
  rw [ho] at L1
  have gl := L1.get (a := a) (o := lobj vs m) (.head _) lst_nf
  have len := ownL_length wl
  obtain ⟨rfl, rl, rfl⟩ := ownL_all wl e5
  refine expr_stmt rfl hi (meth0 rfl hl (name_sound S.led V (badName_of hb).1 (badName_of hb).2 hx hr ?_))
  refine ⟨"list", "list.reverse", F.plainAttrs_list, F.slot_list_reverse, F.type_list_reverse, ⟨_, gl, rfl⟩, fun b e => by cases e; exact ⟨_, gl, rfl⟩, ?_⟩
  refine P.reverse_list (items := vs.toArray) gl ?_ (by simp only [List.size_toArray, sizeLine_eq]; lia)
  obtain ⟨hsb, m2, g2⟩ := list_upd (fun xs => xs.reverse) gl
  rw [Array.toList_reverse] at g2
  have w2 : Own cx kp (.ref a) (.olist (ds.reverse.map .frz)) [(a, lobj vs.reverse m2)] := by
    exact ⟨a, vs.reverse, m2, [], rfl, rfl, (repL_rev rl).own⟩
  exact q kp _ ρ ST _ s.toks Sub.refl (fun _ => rfl) V0 W (un kp (ST ++ Y) _ [(a, lobj vs.reverse m2)] _ _ Sub.refl (by rw [List.append_nil]) w2 (Led.set (l := [] ++ ([] ++ (fl n (oset ob i []) ++ (ST ++ Y)))) L1 hsb g2))
end
end Mine.Internal
end
section
open PySem PySem.W
set_option maxRecDepth 10000
namespace Mine.Internal
section
variable {cx : Cx} {n : Nat} {kp : KP} {k : Nat} {A : Around} {X Y Z ST : Lg} {env : Env} {sc : Sc} {ρ : Nat → Option Value} {σ : Sg} {ob : Ob} {Γ : FCtx} {z : Bool}
structure LInv (cx : Cx) (n : Nat) (A : Around) (env : Env) (Γ : FCtx) (z : Bool) (kp0 : KP) (ρ0 : Nat → Option Value) (s0 : Shared) (Y Z : Lg) (I : Addr) (ds : List D) (St : Nat → Heap → Prop) (step : D → Sg → Option Fl) (r : Fl) (m : Nat) (s' : Shared) : Prop where
  ex : ∃ (h' : Heap) (tk : Nat) (kp : KP) (σ : Sg) (ob : Ob) (ρ : Nat → Option Value) (oI : Obj) (ST : Lg) (rest : List D) (j : Nat),
    s' = { s0 with heap := h', toks := tk } ∧ m = rest.length ∧ j + rest.length = ds.length ∧ ds.drop j = rest ∧ Sub kp0 kp ∧ (z = true → ρ 0 = ρ0 0) ∧ Iter cx A kp I ds St ∧ St j h' ∧ oI.cls ≠ .type "frame" ∧
    EnvOK A env Γ.sc ρ (ST ++ Z) ∧ FrameOK env Γ.ws ST ∧ Ste cx n kp ρ σ ob (ST ++ ((I, oI) :: Y)) h' ∧ forLoop step rest σ = some r
theorem snds_for (B : Bud k A) (K : FCOK n Γ) {l : List Env} {L : Addr} (hA : A.frames = some (env :: l)) (hfr : env.frame = some L) {x : Str} {i : Nat} {xp pos : Pos} {iter : PySem.Expr} {body : List Stmt}
    {gi : Sg → Option (List D × Sg)} {gb : Sg → Option Fl} (hz : z = true → i ≠ 0) (hx : Γ.sc.vs.lookup x = some i) (hs : notSet iter = true)
    (hi : ∀ ρ, SndI cx n A env Γ.sc ρ (eval iter env) gi) (hb : SndS cx n A env Γ z (execs body env) gb) :
    SndS cx n A env Γ z (exec (.For (.Name x xp) iter body [] pos) env) (fun σ => (gi σ).bind fun r => forLoop (fun d σ => gb (σ.set i (some (.frz d)))) r.1 r.2) := by
  intro Y Z hZ kp ρ ST σ ob r s Er Q V0 W S e q
  have V := V0.mono (upZ hZ)
  obtain ⟨⟨ds, σ1⟩, e1, e2⟩ := Option.bind_eq_some_iff.mp e
  refine wpAny_For (hi ρ (ST ++ Y) V kp σ ob ds σ1 s Er _ S e1 fun v kp1 ob1 o1 h1 tk1 sb1 w1 S1 => ?_) (fun v => foldedSet_plain hs v)
  refine iter_start B S1 w1 fun I oI It h2 tk2 it st oc S2 => ?_
  refine codeAny_forLoop (LInv cx n A env Γ z kp ρ s Y Z I ds It (fun d σ => gb (σ.set i (some (.frz d)))) r) ?_ ds.length ?_
  · rintro m s' ⟨h', tk, kp3, σ3, ob3, ρ3, oI3, ST3, rest, j, rfl, rfl, hj, hdr, sb3, hz3, it3, st3, oc3, V3, W3, S3, e3⟩
    have S3' : Ste cx n kp3 ρ3 σ3 ob3 ((I, oI3) :: (ST3 ++ Y)) h' := S3.perm (by exact PE.perm [_, _] [_] (.p (.a 0) (.c 0 (.a 1))) (.c 0 (.p (.a 0) (.a 1))) rfl)
    cases rest with
    | nil =>
      refine iter_done it3 (by rw [← hj]; simpa using st3) S3' fun h4 tk4 S4 => ?_
      simp only [forLoop, Option.some.injEq] at e3
      subst e3
      exact wpAny_execs_nil (q kp3 ob3 ρ3 ST3 h4 tk4 sb3 hz3 V3 W3 S4)
    | cons d rest =>
      have hd : ds[j]? = some d := by
        have : (ds.drop j)[0]? = some d := by rw [hdr]; rfl
        rwa [List.getElem?_drop, Nat.add_zero] at this
      have hdr' : ds.drop (j + 1) = rest := by rw [← List.drop_drop, hdr]; rfl
      refine iter_next it3 st3 S3' hd fun v oI4 h4 tk4 rv st4 oc4 S4 => ?_
      simp only [forLoop, Option.bind_eq_some_iff] at e3
      obtain ⟨f, e4, e5⟩ := e3
      refine wpAny_assign_Name ?_
      have S4' : Ste cx n kp3 ρ3 σ3 ob3 ([] ++ (ST3 ++ ((I, oI4) :: Y))) h4 := S4.perm (by exact PE.perm [_, _] [_] (.c 0 (.p (.a 0) (.a 1))) (.p .n (.p (.a 0) (.c 0 (.a 1)))) rfl)
      refine assign_var K hx (Z := Z) (fun p h => .tail _ (hZ p h)) V3 W3 (of_rep rv) S4' fun ob5 ST5 h5 tk5 V5 W5 S5 => ?_
      have st5 : It (j + 1) h5 := iter_frame it3 st4 oc4 S4.led (by simp) S5.led (by simp) Sub.refl
      have hz5 : z = true → upd ρ3 i (some v) 0 = ρ 0 := fun e => by unfold upd; rw [if_neg (Ne.symm (hz e))]; exact hz3 e
      refine hb ((I, oI4) :: Y) Z (fun p h => .tail _ (hZ p h)) kp3 _ ST5 _ ob5 f _ _ _ V5 W5 S5 e4 ?_
      cases f with
      | next σ6 =>
        intro kp6 ob6 ρ6 ST6 h6 tk6 sb6 hz6 V6 W6 S6
        have st6 : It (j + 1) h6 := iter_frame it3 st5 oc4 S5.led (by simp) S6.led (by simp) sb6
        exact ⟨rest.length, by simp, h6, tk6, kp6, σ6, ob6, ρ6, oI4, ST6, rest, j + 1, rfl, rfl, by simp at hj; lia, hdr', sb3.trans sb6, fun e => (hz6 e).trans (hz5 e), it3.sub sb6, st6, oc4, V6, W6, S6, e5⟩
      | ret t σ6 =>
        intro v6 kp6 ob6 ρ6 ST6 o6 h6 tk6 sb6 hz6 V6 W6 w6 S6
        cases e5
        exact q v6 kp6 ob6 ρ6 ST6 o6 h6 tk6 (sb3.trans sb6) (fun e => (hz6 e).trans (hz5 e)) V6 W6 w6 (Ste.dropX (X := [(I, oI4)]) (S6.perm (by exact PE.perm [_, _, _] [_] (.p (.a 0) (.p (.a 1) (.c 0 (.a 2)))) (.p (.c 0 .n) (.p (.a 0) (.p (.a 1) (.a 2)))) rfl)))
      | exc m =>
        intro e6 b6 kp6 ST6 ox6 h6 tk6 sb6 w6 K6 L6
        cases e5
        have L7 : Led cx kp6 (ox6 ++ (ST6 ++ Y)) h6 := Led.dropR (r := [(I, oI4)]) (L6.perm (by exact PE.perm [_, _, _] [_] (.p (.a 0) (.p (.a 1) (.c 0 (.a 2)))) (.p (.p (.a 0) (.p (.a 1) (.a 2))) (.c 0 .n)) rfl))
        have K7 : Stk A (ST6 ++ Y) := K6.mono (upZ hZ)
        refine exc_noted hA hfr K7 L7 w6 fun ox7 h7 w7 L7 => ?_
        exact exc_back L7 w7 fun ox8 h8 w8 L8 => q e6 true kp6 ST6 ox8 h8 tk6 (sb3.trans sb6) w8 K6 L8
  · refine ⟨h2, tk2, kp1, σ1, ob1, ρ, oI, ST, ds, 0, rfl, rfl, by simp, by simp, sb1, fun _ => rfl, it, st, oc, V0, W, S2.perm (by exact PE.perm [_, _] [_] (.c 0 (.p (.a 0) (.a 1))) (.p (.a 0) (.c 0 (.a 1))) rfl), e2⟩
end
end Mine.Internal
end
section
open PySem PySem.W
set_option maxRecDepth 10000
namespace Mine.Internal
noncomputable def isTwo (sc : Sc) (n1 n2 : Str) (p1 p2 : Pos) (es : List PySem.Expr) : Bool :=
  sc.names.lookup n1 == some .local && sc.names.lookup n2 == some .local && p2.line == p1.line && n1 != n2 && es.length == 2 && noStars es && !(es.all (foldedForSure 8)) && !(es.all (constantsAlone 8))
theorem gcd_step {a b : Int} (ha : 0 ≤ a) (hb : 0 < b) : 0 ≤ a.fmod b ∧ a.fmod b < b ∧ Int.gcd b (a.fmod b) = Int.gcd a b := by
  obtain ⟨m, rfl⟩ := Int.eq_ofNat_of_zero_le ha
  obtain ⟨k, rfl⟩ := Int.eq_ofNat_of_zero_le (Int.le_of_lt hb)
  have e : (m : Int).fmod (k : Int) = ((m % k : Nat) : Int) := by
    rw [Int.fmod_eq_emod_of_nonneg _ (Int.natCast_nonneg k)]; rfl
  rw [e]
  have hk : 0 < k := by omega
  refine ⟨Int.natCast_nonneg _, by have := Nat.mod_lt m hk; omega, ?_⟩
  show Nat.gcd k (m % k) = Nat.gcd m k
  rw [Nat.gcd_comm m k, Nat.gcd_rec k m, Nat.gcd_comm]
section
variable {cx : Cx} {n : Nat} {kp : KP} {k : Nat} {A : Around} {X Y Z ST : Lg} {env : Env} {sc : Sc} {ρ : Nat → Option Value} {σ : Sg} {ob : Ob} {Γ : FCtx} {z : Bool}
theorem nIf {α : Sort _} {c : Bool} {x y z : α} (h : c = false) (k : y = z) : (if c = true then x else y) = z := by rw [h]; exact k
theorem fm2 {α β : Type} {f : α → Option β} {a b : α} {c d : β} (h1 : f a = some c) (h2 : f b = some d) : [a, b].filterMap f = [c, d] := by
  rw [List.filterMap_cons, h1, List.filterMap_cons, h2]; rfl
theorem noStars_any : ∀ {es : List PySem.Expr}, noStars es = true → (es.any fun x => match x with | .Starred .. => true | _ => false) = false
  | [], _ => rfl
  | a :: r, h => by
    rw [List.any_cons, noStars_any (and2 h)]
    have h := and1 h
    cases a <;> first | rfl | exact fot h
theorem swapped_two {X : Lg} (V : EnvOK A env sc ρ X) {n1 n2 : Str} {p1 p2 tp vp : Pos} {k1 k2 : Nat} {es : List PySem.Expr} (h : isTwo sc n1 n2 p1 p2 es = true) :
    swappedStores [.Tuple [.Name n1 p1, .Name n2 p2] k1 tp] (.Tuple es k2 vp) env = pure (some [n1, n2]) := by
  have h8 := not_of (and2 h)
  have h := and1 h
  have h7 := not_of (and2 h)
  have h := and1 h
  have h6 := and2 h
  have h := and1 h
  have h5 := and2 h
  have h := and1 h
  have h4 := bne_iff_ne.mp (and2 h)
  have h := and1 h
  have h3 := eq_of_beq (and2 h)
  have h1 := eq_of_beq (and1 (and1 h))
  have h2 := eq_of_beq (and2 (and1 h))
  have k1 : env.kindOf n1 = some .local := (env_kind V).trans h1
  have k2 : env.kindOf n2 = some .local := (env_kind V).trans h2
  have bk : env.blockKind = .function := by unfold Env.blockKind; rw [V.kind]; rfl
  have nd : (n2 == n1) = false := beq_eq_false_iff_ne.mpr (Ne.symm h4)
  have f1 : (env.kindOf n1 == some .local && p1.line == p1.line) = true := by rw [k1, beq_self_eq_true p1.line]; rfl
  have f2 : (env.kindOf n2 == some .local && p2.line == p1.line) = true := by rw [k2, h3, beq_self_eq_true p1.line]; rfl
  cases es with
  | nil => cases h5
  | cons a es => cases es with
    | nil => cases h5
    | cons b es => cases es with
      | cons => cases h5
      | nil =>
        unfold swappedStores
        refine nIf (by rw [bk]; rfl) (nIf (noStars_any h6) ?_)
        dsimp only
        rw [fm2 (a := PySem.Expr.Name n1 p1) (b := PySem.Expr.Name n2 p2) (c := n1) (d := n2) (if_pos f1) (if_pos f2)]
        refine nIf ?_ (nIf h7 (nIf h8 rfl))
        rw [List.eraseDups_cons, List.filter_cons, nd]
        rfl
noncomputable def euS (σ : Sg) (x y : Nat) (a b : Int) : Sg := (σ.set x (some (.frz (.int a)))).set y (some (.frz (.int b)))
structure WInv (cx : Cx) (n : Nat) (A : Around) (env : Env) (Γ : FCtx) (z : Bool) (kp0 : KP) (ρ0 : Nat → Option Value) (s0 : Shared) (Y Z : Lg) (σ : Sg) (x y : Nat) (a b : Int) (m : Nat) (s' : Shared) : Prop where
  ex : ∃ (h' : Heap) (tk : Nat) (kp : KP) (ob : Ob) (ρ : Nat → Option Value) (ST : Lg) (a' b' : Int),
    s' = { s0 with heap := h', toks := tk } ∧ m = b'.toNat ∧ Sub kp0 kp ∧ (z = true → ρ 0 = ρ0 0) ∧ 0 ≤ a' ∧ 0 ≤ b' ∧ Int.gcd a' b' = Int.gcd a b ∧
    EnvOK A env Γ.sc ρ (ST ++ Z) ∧ FrameOK env Γ.ws ST ∧ Ste cx n kp ρ (euS σ x y a' b') ob (ST ++ Y) h'
theorem assign_two (K : FCOK n Γ) {x1 x2 : Str} {i1 i2 : Nat} {v1 v2 : Value} {d1 d2 : D} {s : Shared} {Er : Value → Shared → Prop} {Q : Unit → Shared → Prop}
    (l1 : Γ.sc.vs.lookup x1 = some i1) (l2 : Γ.sc.vs.lookup x2 = some i2) (hZ : ∀ p ∈ Z, p ∈ Y) (V : EnvOK A env Γ.sc ρ (ST ++ Z)) (W : FrameOK env Γ.ws ST) (r1 : Rep cx kp v1 d1) (r2 : Rep cx kp v2 d2) (S : Ste cx n kp ρ σ ob (ST ++ Y) s.heap)
    (q : ∀ ρ' ob' ST' h' tk', (z = true → i1 ≠ 0 → i2 ≠ 0 → ρ' 0 = ρ 0) → EnvOK A env Γ.sc ρ' (ST' ++ Z) → FrameOK env Γ.ws ST' → Ste cx n kp ρ' ((σ.set i2 (some (.frz d2))).set i1 (some (.frz d1))) ob' (ST' ++ Y) h' → Q () { s with heap := h', toks := tk' }) :
    wpAny (model cx.prog cx.w) A (assignInOrder [bindName env x2, bindName env x1] [v2, v1]) Q Er s := by
  refine wpAny_assignInOrder_more (wpAny_bindName ?_)
  refine assign_var K l2 hZ V W (of_rep r2) (S.perm (by rw [List.nil_append])) fun ob7 ST7 h7 tk7 V7 W7 S7 => ?_
  refine wpAny_assignInOrder_more (wpAny_bindName ?_)
  refine assign_var (s := { s with heap := h7, toks := tk7 }) K l1 hZ V7 W7 (of_rep r1) (S7.perm (by rw [List.nil_append])) fun ob8 ST8 h8 tk8 V8 W8 S8 => ?_
  refine wpAny_assignInOrder_none (q _ ob8 ST8 h8 tk8 (fun _ z1 z2 => ?_) V8 W8 S8)
  unfold upd
  rw [if_neg (Ne.symm z1), if_neg (Ne.symm z2)]
section
variable {τ : Sg} {x y : Nat} {a b : Int} {cf : Cf} {cn : Cn}
theorem eu_c (gy : gv τ y = some (.frz (.int b))) : ec cf cn (.pu .gt (.var y) (.cst (.int 0))) τ = some (decide (0 < b), τ) := by
  show (gv τ y).bind _ = _
  rw [gy]; rfl
theorem ev_pu {p : P} {d : D} (e : pv τ p = some (.frz d)) : ev cf cn (.pu p) τ = some (.frz d, τ) := by
  show (pv τ p).bind _ = _
  rw [e]; rfl
theorem evs2 {e1 e2 : E} {d1 d2 : D} (u1 : ev cf cn e1 τ = some (.frz d1, τ)) (u2 : ev cf cn e2 τ = some (.frz d2, τ)) : ev cf cn (.tup [e1, e2]) τ = some (.frz (.tup [d1, d2]), τ) := by
  have t : evs cf cn [e1, e2] τ = some ([.frz d1, .frz d2], τ) := by
    show (ev cf cn e1 τ).bind _ = _
    rw [u1]
    show ((ev cf cn e2 τ).bind _).bind _ = _
    rw [u2]; rfl
  show (evs cf cn [e1, e2] τ).bind _ = _
  rw [t]; rfl
theorem eu_m (gx : gv τ x = some (.frz (.int a))) (gy : gv τ y = some (.frz (.int b))) (hb : ¬ b = 0) : pv τ (.op .mod [.var x, .var y]) = some (.frz (.int (a.fmod b))) := by
  have t : pvs τ [.var x, .var y] = some [.frz (.int a), .frz (.int b)] := by
    show (gv τ x).bind _ = _
    rw [gx]
    show ((gv τ y).bind _).bind _ = _
    rw [gy]; rfl
  show (pvs τ [.var x, .var y]).bind _ = _
  rw [t]
  show ((if b = 0 then none else some (D.int (a.fmod b)) : Option D).bind fun d => some (T.frz d)) = _
  rw [if_neg hb]; rfl
end
noncomputable def tupOf (w : Bool) (x y : Nat) : E := .tup [if w then .pu (.var y) else .pu (.op .mod [.var x, .var y]), if w then .pu (.op .mod [.var x, .var y]) else .pu (.var y)]
theorem euS_two {w : Bool} {x y : Nat} (hxy : x ≠ y) {a b a' b' : Int} : (((euS σ x y a b).set (if w then y else x) (some (.frz (if w then .int b' else .int a')))).set (if w then x else y) (some (.frz (if w then .int a' else .int b')))) = euS σ x y a' b' := by
  unfold euS
  cases w
  · show (((σ.set x _).set y _).set x _).set y _ = _
    rw [List.set_comm _ _ (Ne.symm hxy), List.set_set, List.set_set]; rfl
  · show (((σ.set x _).set y _).set y _).set x _ = _
    rw [List.set_set, List.set_comm _ _ (Ne.symm hxy), List.set_set]; rfl
theorem set_same {x : Nat} {t : T} (e : gv σ x = some t) : σ.set x (some t) = σ := by
  refine List.ext_getElem? fun j => ?_
  rw [List.getElem?_set]
  have hl := gv_lt e
  refine (Decidable.em (x = j)).elim (fun hj => ?_) fun hj => if_neg hj
  subst hj
  rw [if_pos rfl, if_pos hl]
  unfold gv at e
  rw [List.getElem?_eq_getElem hl] at e ⊢
  exact congrArg some e.symm
theorem euS_x {x y : Nat} {a b : Int} (hxy : x ≠ y) (hx : x < σ.length) : gv (euS σ x y a b) x = some (.frz (.int a)) := by
  unfold euS; rw [gv_set, if_neg (Ne.symm hxy), gv_set, if_pos rfl, if_pos hx]
theorem euS_y {x y : Nat} {a b : Int} (hy : y < σ.length) : gv (euS σ x y a b) y = some (.frz (.int b)) := by
  unfold euS; rw [gv_set, if_pos rfl, if_pos (by rwa [List.length_set])]
theorem toNat_lt' {c b : Int} (h0 : 0 ≤ c) (h : c < b) : c.toNat < b.toNat := by omega
theorem snds_euclid (B : Bud k A) (K : FCOK n Γ) {cf : Cf} {cn : Cn} {x y : Nat} {w : Bool} {n1 n2 : Str} {p1 p2 tp vp ap pos : Pos} {k1 k2 : Nat} {test : PySem.Expr} {es : List PySem.Expr}
    (hx : x < n) (hy : y < n) (hxy : x ≠ y) (hzx : z = true → x ≠ 0) (hzy : z = true → y ≠ 0) (h1 : Γ.sc.vs.lookup n1 = some (if w then x else y)) (h2 : Γ.sc.vs.lookup n2 = some (if w then y else x)) (h2' : isTwo Γ.sc n1 n2 p1 p2 es = true)
    (hc : ∀ ρ, SndC cx n A env Γ.sc ρ (isTrue test env (eval test env)) (ec cf cn (.pu .gt (.var y) (.cst (.int 0)))))
    (ht : ∀ ρ, SndM cx n A env Γ.sc ρ (eval (.Tuple es k2 vp) env) (ev cf cn (tupOf w x y))) :
    SndS cx n A env Γ z (exec (.While test [.Assign [.Tuple [.Name n1 p1, .Name n2 p2] k1 tp] (.Tuple es k2 vp) ap] [] pos) env) (xs cf cn (.euclid x y)) := by
  intro Y Z hZ kp ρ ST σ ob r s Er Q V0 W S e q
  refine binv (o := gv σ x) e fun ta ea e' => binv (o := gv σ y) e' fun tb eb e' => binv (o := asInt ta) e' fun a e1 e' => binv (o := asInt tb) e' fun b e2 e' => ifv e' fun hab ee => ?_; clear e
  cases ee; cases asInt_inv e1; cases asInt_inv e2
  rw [← S.len] at hx hy
  refine wpAny_While (codeAny_whileLoop (WInv cx n A env Γ z kp ρ s Y Z σ x y a b) ?_ b.toNat ⟨s.heap, s.toks, kp, ob, ρ, ST, a, b, rfl, rfl, Sub.refl, fun _ => rfl, hab.1, hab.2, rfl, V0, W, by unfold euS; rw [set_same ea, set_same eb]; exact S⟩)
  rintro m s' ⟨h', tk, kp3, ob3, ρ3, ST3, a', b', rfl, rfl, sb3, hz3, ha', hb', hg, V3, W3, S3⟩
  have gx := euS_x (a := a') (b := b') hxy hx
  have gy := euS_y (x := x) (a := a') (b := b') hy
  have V3Y := V3.mono (upZ hZ)
  refine hc ρ3 (ST3 ++ Y) V3Y kp3 _ ob3 (decide (0 < b')) (euS σ x y a' b') _ _ _ S3 (eu_c gy) fun kp4 ob4 h4 tk4 sb4 S4 => ?_
  cases hp : decide (0 < b') with
  | true =>
    have hpos := dec1 hp
    refine wpAny_execs_cons ?_
    refine PyProof.Rows.Assign_Tuple_swapped ?_ rfl (swapped_two V3 h2')
    obtain ⟨f1, f2, f3⟩ := gcd_step ha' hpos
    have hb0 : ¬ b' = 0 := (Int.ne_of_lt hpos).symm
    refine ht ρ3 (ST3 ++ Y) V3Y kp4 _ ob4 (.frz (.tup [if w then .int b' else .int (a'.fmod b'), if w then .int (a'.fmod b') else .int b'])) (euS σ x y a' b') _ _ _ S4 ?_ fun v kp5 ob5 o5 h5 tk5 sb5 w5 S5 => ?_
    · cases w
      · exact evs2 (ev_pu (eu_m gx gy hb0)) (ev_pu gy)
      · exact evs2 (ev_pu gy) (ev_pu (eu_m gx gy hb0))
    · obtain ⟨rfl, r5⟩ := own_frz w5
      obtain ⟨t5, to, vs, tn, rfl, tk1, tc, td, rl⟩ := r5
      have ht5 : h5.IsTuple t5 vs := ⟨_, S5.led.keptSeq tk1 td, tc, tn, td⟩
      have hsz : ([n1, n2] : List Str).length = vs.size := rl.length.symm.trans (Array.length_toList)
      obtain ⟨v1, _, hv, r1, v2, _, rfl, r2, rfl⟩ := rl
      show wpAny (model cx.prog cx.w) A (unpackItems (.ref t5) [n1, n2].length none) _ _ _
      refine hsz ▸ wpAny_unpackItems_tuple (B.handled) ht5 fun h6 hext => ?_
      rw [hv]
      have S6 := S5.grow fun b o e => hext b o (Nat.ne_of_lt (Heap.lt_size e)) e
      refine assign_two (z := z) (s := { s with heap := h6, toks := tk5 }) K h1 h2 hZ V3 W3 r1 r2 S6 fun ρ7 ob7 ST7 h7 tk7 hz7 V7 W7 S7 => ?_
      refine wpAny_execs_nil ⟨(a'.fmod b').toNat, toNat_lt' f1 f2, h7, tk7, kp5, ob7, ρ7, ST7, b', a'.fmod b', rfl, rfl, sb3.trans (sb4.trans sb5), fun e => (hz7 e ?_ ?_).trans (hz3 e), hb', f1, f3.trans hg, V7, W7, euS_two hxy ▸ S7⟩
      · cases w
        · exact hzy e
        · exact hzx e
      · cases w
        · exact hzx e
        · exact hzy e
  | false =>
    refine wpAny_execs_nil ?_
    have hb0 : b' = 0 := Int.le_antisymm (Int.not_lt.mp (of_decide_eq_false hp)) hb'
    subst hb0
    have ga : ((Int.gcd a b : Nat) : Int) = a' := by
      rw [← hg, Int.gcd_zero_right, Int.natAbs_of_nonneg ha']
    rw [ga] at q
    exact q kp4 ob4 ρ3 ST3 h4 tk4 (sb3.trans sb4) hz3 V3 W3 S4
end
end Mine.Internal
end
section
open PySem PySem.W
set_option maxRecDepth 10000
namespace Mine.Internal
noncomputable def slotsOf (scope : Scope) (names : List String) : List (Str × Nat) :=
  scope.names.filterMap fun p => if p.2 == .local || p.2 == .cell then ((names.map Str.ofString).findIdx? (· == p.1)).map fun i => (p.1, i) else none
structure FnRec (cx : Cx) (a : Addr) (nargs : Nat) (dflt : List D) (body : List Stmt) (scope : Scope) (ps : List Str) : Prop where
  obj : ∃ fo fd, cx.base.get? a = some fo ∧ fo.data = .func fd ∧ fd.body = .stmts body ∧ fd.scope = scope ∧ fd.globals = mainGlobals ∧ fd.closure = [] ∧ fd.builtins = builtinsNs ∧ cx.base.CodeRec fd.code fd.qualname ∧
    ∀ vs, vs.length ≤ nargs → nargs ≤ vs.length + dflt.length → ∃ dv, (∀ kp, RepL cx kp dv (dflt.drop (vs.length + dflt.length - nargs))) ∧ ∀ S, peek cx.K S (bindArgs fd ⟨vs, []⟩) = some (ps.zip (vs ++ dv))
  co : scope.isCoroutine = false
  gen : scope.isGenerator = false
  kind : scope.kind = .function
  len : ps.length = nargs
structure ScOK (scope : Scope) (sc : Sc) (n : Nat) (ps : List Str) : Prop where
  names : sc.names = scope.names
  free : ∀ p ∈ scope.names, p.2 ≠ .free
  kinds : ∀ x i, sc.vs.lookup x = some i → (scope.names.lookup x = some .local ∨ scope.names.lookup x = some .cell) ∧ i < n
  inj : ∀ x y i, sc.vs.lookup x = some i → sc.vs.lookup y = some i → y = x
  par : ∀ i x, ps[i]? = some x → sc.vs.lookup x = some i
theorem lookup_mem {α : Type} : ∀ {l : List (Str × α)} {x : Str} {v : α}, l.lookup x = some v → x ∈ l.map (·.1)
  | (y, w) :: l, x, v, e => by
    rw [List.lookup_cons] at e
    split at e
    · rename_i q; rw [beq_iff_eq.mp q]; exact .head _
    · exact .tail _ (lookup_mem e)
theorem lookup_of_mem : ∀ {l : List (Str × Nat)} {x : Str}, x ∈ l.map (·.1) → ∃ i, l.lookup x = some i
  | (y, w) :: l, x, m => by
    rw [List.lookup_cons]
    by_cases q : (x == y) = true
    · rw [q]; exact ⟨w, rfl⟩
    · rw [Bool.not_eq_true] at q
      rw [q]
      rcases List.mem_cons.mp m with e | m
      · rw [e] at q; simp at q
      · exact lookup_of_mem m
theorem apart_eq : ∀ {l : List (Str × Addr)} {a b : Str} {c : Addr}, l.Pairwise (fun x y => x.2 ≠ y.2) → (a, c) ∈ l → (b, c) ∈ l → a = b
  | (z, w) :: l, a, b, c, p, m1, m2 => by
    rw [List.pairwise_cons] at p
    rcases List.mem_cons.mp m1 with e1 | m1 <;> rcases List.mem_cons.mp m2 with e2 | m2
    · cases e1; cases e2; rfl
    · cases e1; exact absurd rfl (p.1 (b, w) m2)
    · cases e2; exact absurd rfl (p.1 (a, w) m1)
    · exact apart_eq p.2 m1 m2
section
variable {cx : Cx} {n : Nat} {kp : KP} {k : Nat} {A : Around} {X Y Z ST : Lg} {env : Env} {sc : Sc} {ρ : Nat → Option Value} {σ : Sg} {ob : Ob} {Γ : FCtx} {z : Bool}
theorem EnvOK.rehome {A' : Around} (V : EnvOK A env sc ρ X) (K : Stk A' X) : EnvOK A' env sc ρ X := ⟨V.kind, V.names, V.glob, V.blt, V.vars, V.cells, V.live, V.apart, K⟩
theorem EnvOK.rho {ρ' : Nat → Option Value} (V : EnvOK A env sc ρ X) (h : ∀ i v, ρ' i = some v → ρ i = some v) : EnvOK A env sc ρ' X := ⟨V.kind, V.names, V.glob, V.blt, fun x i v e r => V.vars x i v e (h i v r), V.cells, V.live, V.apart, V.stk⟩
theorem bind_all {A₂ : Around} (hZ : ∀ p ∈ Z, p ∈ X) (ws : List Str) (hws : ∀ x i, sc.vs.lookup x = some i → x ∈ ws) (inj : ∀ x y i, sc.vs.lookup x = some i → sc.vs.lookup y = some i → y = x) {f : Str × Value → PUnit → Sem (ForInStep PUnit)} (hf : ∀ x u, f x u = (do storeName env x.1 x.2; pure (.yield ⟨⟩))) {Er : Value → Shared → Prop} {Q : PUnit → Shared → Prop} :
    ∀ (rest : List (Str × Value)) (done : List Value) (ST : Lg) (s : Shared), (∀ i x, (rest.map (·.1))[i]? = some x → sc.vs.lookup x = some (done.length + i)) → EnvOK A₂ env sc (fun i => done[i]?) (ST ++ Z) → FrameOK env ws ST →
      Ste cx n kp (fun i => done[i]?) (List.replicate n none) (fun _ => []) (ST ++ X) s.heap →
      (∀ ST' h' tk, EnvOK A₂ env sc (fun i => (done ++ rest.map (·.2))[i]?) (ST' ++ Z) → FrameOK env ws ST' → Ste cx n kp (fun i => (done ++ rest.map (·.2))[i]?) (List.replicate n none) (fun _ => []) (ST' ++ X) h' → Q ⟨⟩ { s with heap := h', toks := tk }) →
      wpAny (model cx.prog cx.w) A (forIn rest ⟨⟩ f) Q Er s
  | [], done, ST, s, _, V, W, S, q => by
    rw [List.forIn_nil]
    exact wpAny_pure (q ST s.heap s.toks (by simpa using V) W (by simpa using S))
  | (x, v) :: rest, done, ST, s, hp, V, W, S, q => by
    rw [List.forIn_cons, hf]
    have hx : sc.vs.lookup x = some done.length := by simpa using hp 0 x rfl
    have S' : Ste cx n kp (fun i => done[i]?) ((List.replicate n none).set done.length none) (fun _ => []) (ST ++ X) s.heap := by rw [List.set_replicate_self]; exact S
    refine wpAny_bind (wpAny_bind (store_sound (Y := X) (Z := Z) S' hZ V W (hws _ _ hx) hx (fun y e => inj x y _ hx e) fun ST' h' tk S1 V1 W1 => wpAny_pure ?_))
    have e : upd (fun i => done[i]?) done.length (some v) = fun i => (done ++ [v])[i]? := by
      funext i
      unfold upd
      by_cases c : i = done.length
      · subst c; simp
      · rw [if_neg c]
        by_cases c2 : i < done.length
        · exact (List.getElem?_append_left c2).symm
        · exact (List.getElem?_eq_none (l := done) (by omega)).trans (List.getElem?_eq_none (l := done ++ [v]) (by simp; omega)).symm
    rw [e] at S1 V1
    rw [List.set_replicate_self] at S1
    refine bind_all hZ ws hws inj hf rest (done ++ [v]) ST' { s with heap := h', toks := tk } (fun i y hy => ?_) V1 W1 S1 fun ST2 h2 tk2 V2 W2 S2 => ?_
    · have := hp (i + 1) y (by simpa using hy)
      rw [this]; simp; omega
    · have e2 : done ++ [v] ++ rest.map (·.2) = done ++ ((x, v) :: rest).map (·.2) := by simp
      rw [e2] at V2 S2
      exact q ST2 h2 tk2 V2 W2 S2
structure BudW (k : Nat) (A : Around) : Prop where
  handled : A.handled = none
  depth : A.depth + 4 * k + 200 < recursionLimit
  units : A.units + 8 * k + 200 < cLine
theorem Bud.weak (B : Bud k A) : BudW k A := ⟨B.handled, B.depth, B.units⟩
theorem enter (H : All cx) (B : BudW (k + 1) A) {a : Addr} {nargs : Nat} {dflt : List D} {body : List Stmt} {scope : Scope} {ps : List Str} (R : FnRec cx a nargs dflt body scope ps) (G : ScOK scope sc n ps) {vs : List Value} (hv : vs.length ≤ nargs ∧ nargs ≤ vs.length + dflt.length)
    {s : Shared} {Res : Result → Shared → Prop} (L : Led cx kp X s.heap) (hZ : ∀ p ∈ Z, p ∈ X) (K : Stk A Z)
    (q : ∀ env ST h' tk dv, (∀ kp, RepL cx kp dv (dflt.drop (vs.length + dflt.length - nargs))) → env.frame = some env.locals → interactive env = false → Bud k (A.deeper env) → EnvOK (A.deeper env) env sc (fun i => (vs ++ dv)[i]?) (ST ++ Z) → FrameOK env (sc.vs.map (·.1)) ST → Led cx kp (ST ++ X) h' →
      wpAny (model cx.prog cx.w) (A.deeper env) (execs body env) (fun f s' => Res (.ok (.ret (match f with | .ret v => v | _ => .none))) s')
        (fun e s' => wpAny (model cx.prog cx.w) (A.deeper env) (leaving env e) (fun _ s'' => Res (.error e) s'') (fun e' s'' => Res (.error e') s'') s') { s with heap := h', toks := tk }) :
    codeAny (model cx.prog cx.w) A (.call (.ref a) ⟨vs, []⟩) Res s := by
  obtain ⟨fo, fd, o1, o2, o3, o4, o5, o6, o7, o8, o9⟩ := R.obj
  obtain ⟨dv, rd, pk⟩ := o9 vs hv.1 hv.2
  have g := L.sub
  have hroom : A.depth < recursionLimit := by have := B.depth; omega
  refine codeAny_call_function hroom (g _ _ o1) o2 (by rw [o4]; exact R.co) (by rw [o4]; exact R.gen) o3 (o8.keeps g) ?_
  refine kp_binds (H.ok.inK.keeps g) pk _ _ _ _ ?_
  rw [o4, o5, o6, o7]
  simp only [newFunctionEnv, Option.isSome_none, Bool.false_eq_true, if_false]
  refine wpAny_bind (wpAny_alloc ?_)
  refine wpAny_bind (wpAny_layCells _ (fun name kind cells => by cases hkc : kind == NameKind.cell <;> simp [hkc]) _ _ _ _ ?_)
  rw [show ({ s with heap := s.heap.push { cls := .type "frame", data := .dict #[] } } : Shared).heap.objs.size = s.heap.objs.size + 1 from Heap.size_push ..]
  have L1 := L.push (o := { cls := .type "frame", data := .dict #[] }) rfl
  have L2 := L1.cells scope.names
  rw [Heap.size_push] at L2
  have hns : NsObj { cls := .type "frame", data := .dict #[] } (fun _ => none) 0 := ⟨#[], _, rfl, (by intro e he; simp at he), by simp, fun x => by simp [nsFind, findBy]⟩
  have hlim := H.ok.top.nolimit
  refine wpAny_bind ?_
  generalize he : ({ scope := scope, locals := s.heap.objs.size, globals := mainGlobals, cells := cellsFrom (s.heap.objs.size + 1) scope.names [], qual := fd.qualname ++ Str.ofString ".<locals>.", func := some a, code := fd.code, frame := some s.heap.objs.size, builtins := builtinsNs } : Env) = env
  have ek : env.scope = scope := by subst he; rfl
  have el : env.locals = s.heap.objs.size := by subst he; rfl
  have ec : env.cells = cellsFrom (s.heap.objs.size + 1) scope.names [] := by subst he; rfl
  have ef : env.frame = some env.locals := by subst he; rfl
  have eg : env.globals = mainGlobals := by subst he; rfl
  have eb : env.builtins = builtinsNs := by subst he; rfl
  have ST0 : ∀ p, p ∈ ((s.heap.objs.size, ({ cls := .type "frame", data := .dict #[] } : Obj)) :: cellLg (s.heap.objs.size + 1) scope.names) → p ∈ ((s.heap.objs.size, ({ cls := .type "frame", data := .dict #[] } : Obj)) :: cellLg (s.heap.objs.size + 1) scope.names) ++ Z := fun p hp => List.mem_append_left _ hp
  have hk : ∀ x, env.kindOf x = scope.names.lookup x := fun x => by unfold Env.kindOf; rw [ek]
  have cm : ∀ x c, env.cells.lookup x = some c → (c, cellObj none) ∈ cellLg (s.heap.objs.size + 1) scope.names := fun x c e => by
    rw [ec] at e
    rcases cellsFrom_mem _ (mem_of_lookup' e) with h | h
    · cases h
    · exact h.1
  have hc : ∀ x, scope.names.lookup x = some .cell → (env.cells.lookup x).isSome = true := fun x e => by
    rw [ec]; exact cellsFrom_has _ (.inl (mem_of_lookup' e))
  have ok := cellsFrom_ok scope.names (s.heap.push { cls := .type "frame", data := .dict #[] }) (s.heap.objs.size + 1) [] ⟨fun _ _ hm => (nomatch hm), List.Pairwise.nil⟩ (by rw [Heap.size_push]; exact Nat.le_refl _)
  rw [Heap.size_push] at ok
  have K2 : Stk (A.deeper env) (((s.heap.objs.size, ({ cls := .type "frame", data := .dict #[] } : Obj)) :: cellLg (s.heap.objs.size + 1) scope.names) ++ Z) := by
    obtain ⟨l, hfr, hst⟩ := K.ex
    refine ⟨env :: l, Around.frames_deeper hfr, fun e he' => ?_⟩
    rcases List.mem_cons.mp he' with rfl | he'
    · exact ⟨by rw [ek, R.kind]; simp, _, _, ef, by rw [el]; exact .head _, rfl, _, _, rfl⟩
    · obtain ⟨a1, L', o', b1, c1, d1⟩ := hst e he'
      exact ⟨a1, L', o', b1, List.mem_append_right _ c1, d1⟩
  have V0 : EnvOK (A.deeper env) env sc (fun i => ([] : List Value)[i]?) (((s.heap.objs.size, ({ cls := .type "frame", data := .dict #[] } : Obj)) :: cellLg (s.heap.objs.size + 1) scope.names) ++ Z) := by
    refine ⟨by rw [ek]; exact R.kind, by rw [ek, G.names], eg, eb, fun x i v e r => by simp at r, fun x hx => ?_, fun x c e => ⟨_, ST0 _ (.tail _ (cm x c e))⟩, fun x y c ex ey => ?_, K2⟩
    · rw [G.names] at hx
      rcases hx with hx | hx
      · exact hc x hx
      · exact absurd rfl (G.free _ (mem_of_lookup' hx))
    · rw [ec] at ex ey
      exact apart_eq ok.apart (mem_of_lookup' ex) (mem_of_lookup' ey)
  have W0 : FrameOK env (sc.vs.map (·.1)) ((s.heap.objs.size, ({ cls := .type "frame", data := .dict #[] } : Obj)) :: cellLg (s.heap.objs.size + 1) scope.names) := by
    refine ⟨⟨_, _, 0, by rw [el]; exact .head _, hns⟩, fun x hx => ?_⟩
    obtain ⟨i, hi⟩ := lookup_of_mem hx
    rcases (G.kinds x i hi).1 with e | e
    · exact .inl ⟨(hk x).trans e, _, _, 0, by rw [el]; exact .head _, hns⟩
    · obtain ⟨c, hc'⟩ := Option.isSome_iff_exists.mp (hc x e)
      exact .inr ⟨(hk x).trans e, c, cellObj none, none, hc', .tail _ (cm x c hc'), rfl⟩
  have hlen : (vs ++ dv).length = nargs := by
    have := (rd (fun _ => none)).length
    rw [List.length_append, this, List.length_drop]; omega
  have hz1 : (ps.zip (vs ++ dv)).map (·.1) = ps := List.map_fst_zip (by rw [hlen, R.len]; exact Nat.le_refl _)
  have hz2 : (ps.zip (vs ++ dv)).map (·.2) = vs ++ dv := List.map_snd_zip (by rw [hlen, R.len]; exact Nat.le_refl _)
  have hfl : fl n (fun _ => ([] : Lg)) = [] := by unfold fl; simp
  refine bind_all (A := A.in1) (A₂ := A.deeper env) (env := env) (sc := sc) (X := X) (n := n) (kp := kp) hZ (sc.vs.map (·.1)) (fun x i e => lookup_mem e) G.inj (fun _ _ => rfl) (ps.zip (vs ++ dv)) [] _ _ (fun i x hx => ?_) V0 W0 ?_ fun ST h' tk V1 W1 S1 => ?_
  · rw [hz1] at hx
    simpa using G.par i x hx
  · refine ⟨?_, fun i t e => ?_, by simp⟩
    · rw [hfl, List.nil_append]
      exact L2.perm (List.perm_middle)
    · have : gv (List.replicate n none) i = none := by
        unfold gv; rw [List.getElem?_replicate]; split <;> rfl
      rw [this] at e; cases e
  · have hL : Led cx kp (ST ++ X) h' := by have := S1.led; rwa [hfl, List.nil_append] at this
    rw [hz2, List.nil_append] at V1
    refine wpAny_pure ⟨hlim.keeps hL.sub, codeAny_func ?_⟩
    obtain ⟨l, hfr, hst⟩ := K.ex
    have hfr2 : (A.deeper env).frames = some (env :: l) := Around.frames_deeper hfr
    refine q env ST h' tk dv rd ef (by unfold interactive; rw [ek, R.kind]; rfl) ⟨B.handled, ?_, ?_, ⟨env, l, hfr2, by rw [ek]; exact R.gen, by rw [ek]; exact R.co, eb, eg⟩⟩ V1 W1 hL
    · show A.depth + 1 + 4 * k + 200 < recursionLimit
      have := B.depth; omega
    · show A.units + 3 + 8 * k + 200 < cLine
      have := B.units; omega
end
end Mine.Internal
end
section
open PySem PySem.W
set_option maxRecDepth 10000
namespace Mine.Internal
noncomputable def RaiseOK (cx : Cx) (A : Around) : Prop := ∀ (n : Nat) (env : Env) (Γ : FCtx) (z : Bool) (a : PySem.Expr) (g : Sg → Option (T × Sg)) (np cpos pos : Pos), Γ.sc.names.lookup ("Refusal" : Str) = some .globalImplicit → noStar a = true → (∀ ρ, SndM cx n A env Γ.sc ρ (eval a env) g) →
  SndS cx n A env Γ z (exec (.Raise (some (.Call (.Name "Refusal" np) [a] [] cpos)) none pos) env) (fun σ => (g σ).bind fun r => (asStr r.1).bind fun m => some (.exc m))
noncomputable def xAsg (a : Stmt) : Option {q : PySem.Expr × PySem.Expr × Pos // a = .Assign [q.1] q.2.1 q.2.2} := if h : a.ctorIdx = 5 then PySem.Stmt.Assign.elim a h fun z0 v p => (match z0 with
    | [t] => some ⟨(t, v, p), rfl⟩
    | _ => none) else none
noncomputable def xExp (a : Stmt) : Option {q : PySem.Expr × Pos // a = .Expr q.1 q.2} := if h : a.ctorIdx = 24 then PySem.Stmt.Expr.elim a h fun v p => some ⟨(v, p), rfl⟩ else none
noncomputable def xIff (a : Stmt) : Option {q : PySem.Expr × List Stmt × List Stmt × Pos // a = .If q.1 q.2.1 q.2.2.1 q.2.2.2} := if h : a.ctorIdx = 12 then PySem.Stmt.If.elim a h fun t x y p => some ⟨(t, x, y, p), rfl⟩ else none
noncomputable def xFor (a : Stmt) : Option {q : PySem.Expr × PySem.Expr × List Stmt × Pos // a = .For q.1 q.2.1 q.2.2.1 [] q.2.2.2} := if h : a.ctorIdx = 9 then PySem.Stmt.For.elim a h fun t i b z3 p => (match z3 with
    | [] => some ⟨(t, i, b, p), rfl⟩
    | _ => none) else none
noncomputable def xRet (a : Stmt) : Option {q : PySem.Expr × Pos // a = .Return (some q.1) q.2} := if h : a.ctorIdx = 3 then PySem.Stmt.Return.elim a h fun z0 p => (match z0 with
    | some v => some ⟨(v, p), rfl⟩
    | _ => none) else none
noncomputable def xRaise (a : Stmt) : Option {q : PySem.Expr × Pos // a = .Raise (some q.1) none q.2} := if h : a.ctorIdx = 16 then PySem.Stmt.Raise.elim a h fun z0 z1 p => (match z0, z1 with
    | some v, .none => some ⟨(v, p), rfl⟩
    | _, _ => none) else none
noncomputable def xWhile (a : Stmt) : Option {q : PySem.Expr × Stmt × Pos // a = .While q.1 [q.2.1] [] q.2.2} := if h : a.ctorIdx = 11 then PySem.Stmt.While.elim a h fun t z1 z2 p => (match z1, z2 with
    | [b], [] => some ⟨(t, b, p), rfl⟩
    | _, _ => none) else none
noncomputable def xTup2 (a : PySem.Expr) : Option {q : PySem.Expr × PySem.Expr × Nat × Pos // a = .Tuple [q.1, q.2.1] q.2.2.1 q.2.2.2} := if h : a.ctorIdx = 25 then PySem.Expr.Tuple.elim a h fun z0 k p => (match z0 with
    | [x, y] => some ⟨(x, y, k, p), rfl⟩
    | _ => none) else none
noncomputable def xMeth (a : PySem.Expr) : Option {q : PySem.Expr × Str × Pos × PySem.Expr × Pos // a = .Call (.Attribute q.1 q.2.1 q.2.2.1) [q.2.2.2.1] [] q.2.2.2.2} := if h : a.ctorIdx = 16 then PySem.Expr.Call.elim a h fun f z1 z2 p => (match z1, z2 with
    | [x], [] => (xAttr f).bind fun q => some ⟨(q.1.1, q.1.2.1, q.1.2.2, x, p), congrArg (fun e => PySem.Expr.Call e [x] [] p) q.2⟩
    | _, _ => none) else none
section
variable {P : Stmt → Prop} {a : Stmt}
@[elab_as_elim] theorem asgE {f : PySem.Expr × PySem.Expr × Pos → Bool} (h : tst (xAsg a) f = true) (k : ∀ t v p, f (t, v, p) = true → P (.Assign [t] v p)) : P a := xE (P := P) h fun q h => k q.1 q.2.1 q.2.2 h
@[elab_as_elim] theorem expE {f : PySem.Expr × Pos → Bool} (h : tst (xExp a) f = true) (k : ∀ v p, f (v, p) = true → P (.Expr v p)) : P a := xE (P := P) h fun q h => k q.1 q.2 h
@[elab_as_elim] theorem iffE {f : PySem.Expr × List Stmt × List Stmt × Pos → Bool} (h : tst (xIff a) f = true) (k : ∀ t x y p, f (t, x, y, p) = true → P (.If t x y p)) : P a := xE (P := P) h fun q h => k q.1 q.2.1 q.2.2.1 q.2.2.2 h
@[elab_as_elim] theorem forE {f : PySem.Expr × PySem.Expr × List Stmt × Pos → Bool} (h : tst (xFor a) f = true) (k : ∀ t i b p, f (t, i, b, p) = true → P (.For t i b [] p)) : P a := xE (P := P) h fun q h => k q.1 q.2.1 q.2.2.1 q.2.2.2 h
@[elab_as_elim] theorem retE {f : PySem.Expr × Pos → Bool} (h : tst (xRet a) f = true) (k : ∀ v p, f (v, p) = true → P (.Return (some v) p)) : P a := xE (P := P) h fun q h => k q.1 q.2 h
@[elab_as_elim] theorem raiseE {f : PySem.Expr × Pos → Bool} (h : tst (xRaise a) f = true) (k : ∀ v p, f (v, p) = true → P (.Raise (some v) none p)) : P a := xE (P := P) h fun q h => k q.1 q.2 h
@[elab_as_elim] theorem whileE {f : PySem.Expr × Stmt × Pos → Bool} (h : tst (xWhile a) f = true) (k : ∀ t b p, f (t, b, p) = true → P (.While t [b] [] p)) : P a := xE (P := P) h fun q h => k q.1 q.2.1 q.2.2 h
end
section
variable {P : PySem.Expr → Prop} {a : PySem.Expr}
@[elab_as_elim] theorem tup2E {f : PySem.Expr × PySem.Expr × Nat × Pos → Bool} (h : tst (xTup2 a) f = true) (k : ∀ x y j p, f (x, y, j, p) = true → P (.Tuple [x, y] j p)) : P a := xE (P := P) h fun q h => k q.1 q.2.1 q.2.2.1 q.2.2.2 h
@[elab_as_elim] theorem methE {f : PySem.Expr × Str × Pos × PySem.Expr × Pos → Bool} (h : tst (xMeth a) f = true) (k : ∀ o m ap x p, f (o, m, ap, x, p) = true → P (.Call (.Attribute o m ap) [x] [] p)) : P a := xE (P := P) h fun q h => k q.1 q.2.1 q.2.2.1 q.2.2.2.1 q.2.2.2.2 h
end
noncomputable def isFail : S → Bool
  | .fail => true
  | _ => false
noncomputable def compOf : E → Option (Nat × It × Option C × E)
  | .comp j it c elt => some (j, it, c, elt)
  | _ => none
noncomputable def unfrz : E → Bool × E
  | .frz e => (true, e)
  | e => (false, e)
noncomputable def nz (z : Bool) (i : Nat) : Bool := !z || i != 0
noncomputable def isMeth (Γ : FCtx) (i : Nat) (nm : String) (a : PySem.Expr) (k : PySem.Expr → Bool) : Bool :=
  tst (xMeth a) fun q => q.2.1 == Str.ofString nm && isNam Γ.sc i q.1 && q.2.2.1.endLine == q.2.2.2.2.line && noStar q.2.2.2.1 && k q.2.2.2.1
noncomputable def eu (n : Nat) (Γ : FCtx) (x y : Nat) (w : Bool) (n1 n2 : Str) (tup : PySem.Expr) : Bool :=
  Γ.sc.vs.lookup n1 == some (if w then x else y) && Γ.sc.vs.lookup n2 == some (if w then y else x) && chkE n Γ.sc (tupOf w x y) tup
mutual
noncomputable def chkS (n : Nat) (Γ : FCtx) (z : Bool) : S → Stmt → Bool
  | .asg i e, st => tst (xAsg st) fun q => tst (xName q.1) fun r => Γ.sc.vs.lookup r.1 == some i && nz z i && (notComp q.2.1 || (compOf (unfrz e).2).isSome) && chkE n Γ.sc e q.2.1
  | .set i path last e, st => tst (xAsg st) fun q => chkSt Γ.sc i path last q.1 && chkE n Γ.sc e q.2.1
  | .setany i nm e, st => tst (xAsg st) fun q => tst (xAttr q.1) fun r => tst (xName r.1) fun s => nm == "shared" && r.2.1 == ("shared" : Str) && isVar Γ.sc i s.1 && chkE n Γ.sc e q.2.1
  | .app i e, st => tst (xExp st) fun q => isMeth Γ i "append" q.1 (chkE n Γ.sc e)
  | .appA i nm e, st => tst (xExp st) fun q => tst (xMeth q.1) fun r => tst (xAttr r.1) fun s => tst (xName s.1) fun t => r.2.1 == ("append" : Str) && isVar Γ.sc i t.1 && r.2.2.1.endLine == r.2.2.2.2.line && s.2.1 == Str.ofString nm && attrNames.contains nm && noStar r.2.2.2.1 && chkE n Γ.sc e r.2.2.2.1
  | .ext i e, st => tst (xExp st) fun q => isMeth Γ i "extend" q.1 (chkE n Γ.sc e)
  | .rev i, st => tst (xExp st) fun q => tst (xMeth0 q.1) fun r => r.2.2.1 == ("reverse" : Str) && isVar Γ.sc i r.1 && r.2.2.2.1.endLine == r.2.2.2.2.line
  | .iff c a b, st => tst (xIff st) fun q => chkC n Γ.sc c q.1 && chkSs n Γ z a q.2.1 && chkSs n Γ z b q.2.2.1
  | .loop i it body, st => tst (xFor st) fun q => tst (xName q.1) fun r => Γ.sc.vs.lookup r.1 == some i && nz z i && notSet q.2.1 && chkI n Γ.sc it q.2.1 && chkSs n Γ z body q.2.2.1
  | .ret e, st => tst (xRet st) fun q => chkE n Γ.sc e q.1
  | .ex e, st => tst (xExp st) fun q => notComp q.1 && chkE n Γ.sc e q.1
  | .raise e, st => tst (xRaise st) fun q => tst (xCall1 q.1) fun r => tst (xName r.1) fun s => s.1 == ("Refusal" : Str) && Γ.sc.names.lookup s.1 == some .globalImplicit && noStar r.2.1 && chkE n Γ.sc e r.2.1
  | .euclid x y, st => decide (x < n) && decide (y < n) && x != y && nz z x && nz z y && (tst (xWhile st) fun q => tst (xAsg q.2.1) fun r => tst (xTup r.2.1) fun v => tst (xTup2 r.1) fun t => tst (xName t.1) fun u => tst (xName t.2.1) fun u' =>
      isTwo Γ.sc u.1 u'.1 u.2 u'.2 v.1 && chkC n Γ.sc (.pu .gt (.var y) (.cst (.int 0))) q.1 && (eu n Γ x y true u.1 u'.1 (.Tuple v.1 v.2.1 v.2.2) || eu n Γ x y false u.1 u'.1 (.Tuple v.1 v.2.1 v.2.2)))
  | .fail, _ => true
  | .fgt _ s, st => chkS n Γ z s st
noncomputable def chkSs (n : Nat) (Γ : FCtx) (z : Bool) : List S → List Stmt → Bool
  | [], as => nil? as
  | s :: ss, as => isFail s || (match as with | a :: as => chkS n Γ z s a && chkSs n Γ z ss as | [] => false)
end
section
variable {cx : Cx} {n : Nat} {k : Nat} {A : Around} {cf : Cf} {cn : Cn} {Γ : FCtx} {z : Bool}
theorem zne {z : Bool} {i : Nat} (h : nz z i = true) : z = true → i ≠ 0 := by
  intro e; subst e; exact bne_iff_ne.mp h
theorem compOf_inv {e : E} {q : Nat × It × Option C × E} (h : compOf e = some q) : e = .comp q.1 q.2.1 q.2.2.1 q.2.2.2 := by
  cases e <;> first | exact nos h | (cases h; rfl)
theorem unfrz_or (e : E) : e = .frz (unfrz e).2 ∨ (unfrz e).2 = e := by
  cases e <;> first | exact .inr rfl | exact .inl rfl
@[elab_as_elim] theorem bmeth {i : Nat} {nm : String} {a : PySem.Expr} {kk : PySem.Expr → Bool} {P : PySem.Expr → Prop} (h : isMeth Γ i nm a kk = true)
    (k : ∀ x xp ap y p, Γ.sc.vs.lookup x = some i → badName x = false → (ap.endLine == p.line) = true → noStar y = true → kk y = true → P (.Call (.Attribute (.Name x xp) (Str.ofString nm) ap) [y] [] p)) : P a :=
  methE (a := a) h fun o m ap y p h => by
    cases eq_of_beq (and1 (and1 (and1 (and1 h))))
    exact nameE (a := o) (P := fun o => P (.Call (.Attribute o (Str.ofString nm) ap) [y] [] p)) (and2 (and1 (and1 (and1 h)))) fun x xp h2 => k x xp ap y p (eq_of_beq (and1 h2)) (not_of (and2 h2)) (and2 (and1 (and1 h))) (and2 (and1 h)) (and2 h)
theorem sndComp (H : All cx) (F : FnsOK cx) (B : Bud k A) (CF : CallOK cx k cf) (CN : NewOK cx k cn) (K : FCOK n Γ) {env : Env} (fz : Bool) {i j : Nat} {it : It} {c : Option C} {elt : E} {a : PySem.Expr} {x : Str} {xp pos : Pos} (h : chkE n Γ.sc (.comp j it c elt) a = true) (h1 : Γ.sc.vs.lookup x = some i) (h2 : z = true → i ≠ 0) :
    SndS cx n A env Γ z (exec (.Assign [.Name x xp] a pos) env) (fun σ => (frzIf fz (ev cf cn (.comp j it c elt)) σ).bind fun r => some (.next (r.2.set i (some r.1)))) := by
  cases c with
  | none =>
    refine compE (a := a) h fun el y yp iter ifs scope p h => ?_
    cases nil_inv (l := ifs) (and1 (and1 (and1 (and1 h))))
    exact snds_asg_comp K B (chkComp_of (and2 (and1 (and1 (and1 h))))) (and2 (and1 (and1 h))) h2 h1 (fun ρ => sndIt H F B CF CN it _ _ (and2 (and1 h)) env ρ) (fun _ _ => sndT_nil) (fun _ _ => sndE H F B CF CN elt _ _ (and2 h) _ _)
  | some c =>
    refine compE (a := a) h fun el y yp iter ifs scope p h => ?_
    obtain ⟨ca, rfl, hc⟩ := oneB_inv (l := ifs) (and1 (and1 (and1 (and1 h))))
    exact snds_asg_comp K B (chkComp_of (and2 (and1 (and1 (and1 h))))) (and2 (and1 (and1 h))) h2 h1 (fun ρ => sndIt H F B CF CN it _ _ (and2 (and1 h)) env ρ) (fun _ _ => sndT_one (sndC H F B CF CN c _ _ hc _ _ _ rfl)) (fun _ _ => sndE H F B CF CN elt _ _ (and2 h) _ _)
mutual
theorem sndS (H : All cx) (F : FnsOK cx) (B : Bud k A) (CF : CallOK cx k cf) (CN : NewOK cx k cn) (K : FCOK n Γ) (RS : RaiseOK cx A) (hj : ∀ c, AttrOK cx.K (cx.cA c) "shared" = true) {env : Env} {l : List Env} {L : Addr} (hA : A.frames = some (env :: l)) (hfr : env.frame = some L) (hi : interactive env = false) :
    ∀ (s : S) (st : Stmt), chkS n Γ z s st = true → SndS cx n A env Γ z (exec st env) (xs cf cn s)
  | .asg i e, st, h => asgE (a := st) h fun t a pos h => nameE (a := t) h fun x xp h => by
    have h1 := eq_of_beq (and1 (and1 (and1 h)))
    have h2 := zne (and2 (and1 (and1 h)))
    have h4 : chkE n Γ.sc e a = true := and2 h
    cases hn : notComp a with
    | true => exact snds_asg K h2 h1 (swaps_no hn _ _ _) fun ρ => sndE H F B CF CN e _ _ h4 env ρ
    | false =>
      have h3 := and2 (and1 h)
      rw [hn] at h3
      obtain ⟨q, hq⟩ := Option.isSome_iff_exists.mp (show (compOf (unfrz e).2).isSome = true from h3)
      have he := compOf_inv hq
      rcases unfrz_or e with hu | hu
      · rw [he] at hu
        rw [hu] at h4 ⊢
        exact sndComp H F B CF CN K true h4 h1 h2
      · rw [← hu, he] at h4 ⊢
        exact sndComp H F B CF CN K false h4 h1 h2
  | .set i path last e, st, h => asgE (a := st) h fun t a pos h => snds_set H B (and1 h) fun ρ => sndE H F B CF CN e _ _ (and2 h) env ρ
  | .setany i nm e, st, h => asgE (a := st) h fun t a pos h => attrE (a := t) h fun v m ap h => nameE (a := v) h fun x xp h => by
    cases eq_of_beq (and1 (and1 (and1 h)))
    cases eq_of_beq (and2 (and1 (and1 h)))
    exact snds_setany H (eq_of_beq (and1 (and2 (and1 h)))) (not_of (and2 (and2 (and1 h)))) (fun ρ => sndE H F B CF CN e _ _ (and2 h) env ρ) hj
  | .app i e, st, h => expE (a := st) h fun a pos h => bmeth (a := a) h fun x xp ap y p h1 h2 h3 h4 h5 => snds_app H h1 h2 h4 h3 hi fun ρ => sndE H F B CF CN e _ _ h5 env ρ
  | .appA i nm e, st, h => expE (a := st) h fun a pos h => methE (a := a) h fun o m ap y p h => attrE (a := o) h fun o2 m2 ap2 h => nameE (a := o2) h fun x xp h => by
    cases eq_of_beq (and1 (and1 (and1 (and1 (and1 (and1 h))))))
    have h1 := and2 (and1 (and1 (and1 (and1 (and1 h)))))
    exact snds_appA H (eq_of_beq (and1 h1)) (not_of (and2 h1)) (and2 (and1 h)) (and2 (and1 (and1 (and1 (and1 h))))) (eq_of_beq (and2 (and1 (and1 (and1 h))))) (mem_of (and2 (and1 (and1 h)))) hi fun ρ => sndE H F B CF CN e _ _ (and2 h) env ρ
  | .ext i e, st, h => expE (a := st) h fun a pos h => bmeth (a := a) h fun x xp ap y p h1 h2 h3 h4 h5 => snds_ext H h1 h2 h4 h3 hi fun ρ => sndE H F B CF CN e _ _ h5 env ρ
  | .rev i, st, h => expE (a := st) h fun a pos h => meth0E (a := a) h fun x xp m ap p h => by
    cases eq_of_beq (and1 (and1 h))
    exact snds_rev H (eq_of_beq (and1 (and2 (and1 h)))) (not_of (and2 (and2 (and1 h)))) (and2 h) hi
  | .iff c a b, st, h => iffE (a := st) h fun t x y pos h => snds_iff (fun ρ => sndC H F B CF CN c _ _ (and1 (and1 h)) env ρ _ rfl) (sndSs H F B CF CN K RS hj hA hfr hi a _ (and2 (and1 h))) (sndSs H F B CF CN K RS hj hA hfr hi b _ (and2 h))
  | .loop i it body, st, h => forE (a := st) h fun t iter bd pos h => nameE (a := t) h fun x xp h => snds_for B K hA hfr (zne (and2 (and1 (and1 (and1 h))))) (eq_of_beq (and1 (and1 (and1 (and1 h))))) (and2 (and1 (and1 h))) (fun ρ => sndIt H F B CF CN it _ _ (and2 (and1 h)) env ρ) (sndSs H F B CF CN K RS hj hA hfr hi body _ (and2 h))
  | .ret e, st, h => retE (a := st) h fun a pos h => snds_ret fun ρ => sndE H F B CF CN e _ _ h env ρ
  | .ex e, st, h => expE (a := st) h fun a pos h => snds_ex (and1 h) hi fun ρ => sndE H F B CF CN e _ _ (and2 h) env ρ
  | .raise e, st, h => raiseE (a := st) h fun a pos h => call1E (a := a) h fun f y p h => nameE (a := f) h fun x xp h => by
    cases eq_of_beq (and1 (and1 (and1 h)))
    exact RS n env Γ z _ _ _ _ _ (eq_of_beq (and2 (and1 (and1 h)))) (and2 (and1 h)) fun ρ => sndE H F B CF CN e _ _ (and2 h) env ρ
  | .euclid x y, st, h => by
    have g := and1 h
    refine whileE (a := st) (and2 h) fun test b pos h => asgE (a := b) h fun t v ap h => tupE (a := v) h fun es k2 vp h => tup2E (a := t) h fun u1 u2 k1 tp h => nameE (a := u1) h fun n1 p1 h => nameE (a := u2) h fun n2 p2 h => ?_
    have main : ∀ w, eu n Γ x y w n1 n2 (.Tuple es k2 vp) = true → SndS cx n A env Γ z (exec (.While test [.Assign [.Tuple [.Name n1 p1, .Name n2 p2] k1 tp] (.Tuple es k2 vp) ap] [] pos) env) (xs cf cn (.euclid x y)) := fun w e =>
      snds_euclid (w := w) B K (dec1 (and1 (and1 (and1 (and1 g))))) (dec1 (and2 (and1 (and1 (and1 g))))) (bne_iff_ne.mp (and2 (and1 (and1 g)))) (zne (and2 (and1 g))) (zne (and2 g)) (eq_of_beq (and1 (and1 e))) (eq_of_beq (and2 (and1 e))) (and1 (and1 h))
        (fun ρ => sndC H F B CF CN _ _ _ (and2 (and1 h)) env ρ _ rfl) (fun ρ => sndE H F B CF CN _ _ _ (and2 e) env ρ)
    rcases (Bool.or_eq_true _ _).mp (and2 h) with e | e
    · exact main true e
    · exact main false e
  | .fail, st, h => fun Y Z hZ kp ρ ST σ ob r s Er Q V W S e q => nos e
  | .fgt fg s, st, h => snds_fgt fg (sndS H F B CF CN K RS hj hA hfr hi s st h)
theorem sndSs (H : All cx) (F : FnsOK cx) (B : Bud k A) (CF : CallOK cx k cf) (CN : NewOK cx k cn) (K : FCOK n Γ) (RS : RaiseOK cx A) (hj : ∀ c, AttrOK cx.K (cx.cA c) "shared" = true) {env : Env} {l : List Env} {L : Addr} (hA : A.frames = some (env :: l)) (hfr : env.frame = some L) (hi : interactive env = false) :
    ∀ (ss : List S) (sts : List Stmt), chkSs n Γ z ss sts = true → SndS cx n A env Γ z (execs sts env) (xss cf cn ss)
  | [], sts, h => by
    rw [nil_inv (l := sts) h]
    exact snds_nil
  | s :: ss, sts, h => by
    cases hf : isFail s with
    | true =>
      cases s <;> first | exact fot hf | exact fun Y Z hZ kp ρ ST σ ob r s Er Q V W S e q => nos e
    | false =>
      have h : (isFail s || _) = true := h
      rw [hf] at h
      cases sts with
      | nil => exact fot h
      | cons a as => exact snds_cons (sndS H F B CF CN K RS hj hA hfr hi s _ (and1 h)) (sndSs H F B CF CN K RS hj hA hfr hi ss _ (and2 h))
end
end
end Mine.Internal
end
section
open PySem PySem.W
set_option maxRecDepth 10000
namespace Mine.Internal
noncomputable def scOf (scope : Scope) (I : Info) : Sc := ⟨scope.names, slotsOf scope I.names⟩
noncomputable def ctxOf (scope : Scope) (I : Info) : FCtx := ⟨scOf scope I, (slotsOf scope I.names).map (·.1)⟩
structure FnFit (cx : Cx) (a : Addr) (z : Bool) (I : Info) : Prop where
  ex : ∃ body scope ps, FnRec cx a I.nargs I.dflt body scope ps ∧ ScOK scope (scOf scope I) I.names.length ps ∧ FCOK I.names.length (ctxOf scope I) ∧ chkSs I.names.length (ctxOf scope I) z I.body body = true
  nargs : I.nargs ≤ I.names.length
  one : z = true → I.dflt.length < I.nargs
section
variable {cx : Cx} {n : Nat} {kp : KP} {k : Nat} {A : Around} {X Y Z ST : Lg} {cf : Cf} {cn : Cn}
theorem split_own : ∀ {ts : List T} {vs : List Value} {o : Lg} (j : Nat), OwnL cx kp vs ts o →
    ∃ ob : Ob, (∀ i t, ts[i]? = some t → ∃ v, vs[i]? = some v ∧ Own cx kp v t (ob (j + i))) ∧ (∀ i, (i < j ∨ j + ts.length ≤ i) → ob i = []) ∧ ∀ m, j + ts.length ≤ m → (fl m ob).Perm o
  | [], vs, o, j, w => by
    obtain ⟨rfl, rfl⟩ := w
    refine ⟨fun _ => [], fun i t e => by simp at e, fun _ _ => rfl, fun m _ => ?_⟩
    unfold fl; simp
  | t :: ts, vs, o, j, w => by
    obtain ⟨v, r, o1, o2, rfl, rfl, w1, w2⟩ := w
    obtain ⟨ob, h1, h2, h3⟩ := split_own (j + 1) w2
    refine ⟨oset ob j o1, fun i u e => ?_, fun i hi => ?_, fun m hm => ?_⟩
    · cases i with
      | zero =>
        simp at e; subst e
        exact ⟨v, rfl, by unfold oset; simpa using w1⟩
      | succ i =>
        obtain ⟨v', e1, e2⟩ := h1 i u (by simpa using e)
        refine ⟨v', by simpa using e1, ?_⟩
        unfold oset
        rw [if_neg (by lia), show j + (i + 1) = j + 1 + i by lia]
        exact e2
    · simp only [List.length_cons] at hi
      unfold oset
      rw [if_neg (by lia)]
      exact h2 i (by lia)
    · simp only [List.length_cons] at hm
      have e : oset ob j [] = ob := by
        have := oset_self ob j
        rwa [h2 j (by lia)] at this
      have p := fl_perm (ob := ob) o1 (show j < m by lia)
      rw [e] at p
      exact p.trans ((h3 m (by lia)).append_left o1)
theorem frame_inv {I : Info} {args : List T} {σ : Sg} (e : frame I args = some σ) : args.length ≤ I.nargs ∧ I.nargs ≤ args.length + I.dflt.length ∧
    σ = (args ++ (I.dflt.drop (args.length + I.dflt.length - I.nargs)).map T.frz).map some ++ List.replicate (I.names.length - I.nargs) none := by
  unfold frame at e
  split at e
  · rename_i h
    cases e
    exact ⟨h.1, h.2, by simp [Function.comp_def]⟩
  · cases e
theorem fn_sound (H : All cx) (F : FnsOK cx) (B : BudW (k + 1) A) (CF : CallOK cx k cf) (CN : NewOK cx k cn) (RS : ∀ A, Bud k A → RaiseOK cx A) (hj : ∀ c, AttrOK cx.K (cx.cA c) "shared" = true) {a : Addr} {z : Bool} {I : Info} (R : FnFit cx a z I)
    {args : List T} {vs : List Value} {o : Lg} {σ : Sg} {r : Fl} {s : Shared} {Res : Result → Shared → Prop} (L : Led cx kp (o ++ X) s.heap) (K : Stk A X) (w : OwnL cx kp vs args o) (e1 : frame I args = some σ) (e2 : xss cf cn I.body σ = some r)
    (hr : ∀ t σ', (r = .ret t σ' ∨ (r = .next σ' ∧ t = .frz .none)) → ∀ v kp' o1 o0 h' tk', Sub kp kp' → Own cx kp' v t o1 → (z = true → ∀ t0, gv σ' 0 = some t0 → ∃ v0, vs.head? = some v0 ∧ Own cx kp' v0 t0 o0) → Led cx kp' (o1 ++ (o0 ++ X)) h' → Res (.ok (.ret v)) { s with heap := h', toks := tk' })
    (he : ∀ m, r = .exc m → ∀ e kp' ox h' tk', Sub kp kp' → ExcAt cx m e true ox → Led cx kp' (ox ++ X) h' → Res (.error (.ref e)) { s with heap := h', toks := tk' }) :
    codeAny (model cx.prog cx.w) A (.call (.ref a) ⟨vs, []⟩) Res s := by
  obtain ⟨body, scope, ps, R1, R2, R3, R4⟩ := R.ex
  obtain ⟨h1, h2, rfl⟩ := frame_inv e1
  have len := ownL_length w
  refine enter (Z := X) H B R1 R2 (vs := vs) (by lia) L (fun p hp => List.mem_append_right _ hp) K fun env ST h' tk dv rd ef hi B' V W L' => ?_
  obtain ⟨l, hfr, _⟩ := K.ex
  have hfr2 : (A.deeper env).frames = some (env :: l) := Around.frames_deeper hfr
  rw [len] at rd
  have wd : OwnL cx kp (vs ++ dv) (args ++ (I.dflt.drop (args.length + I.dflt.length - I.nargs)).map T.frz) o := by
    have := ownL_join w (rd kp).own
    rwa [List.append_nil] at this
  obtain ⟨ob, p1, p2, p3⟩ := split_own 0 wd
  have hlen : (args ++ (I.dflt.drop (args.length + I.dflt.length - I.nargs)).map T.frz).length = I.nargs := by simp; lia
  have hn := R.nargs
  have S0 : Ste cx I.names.length kp (fun i => (vs ++ dv)[i]?) ((args ++ (I.dflt.drop (args.length + I.dflt.length - I.nargs)).map T.frz).map some ++ List.replicate (I.names.length - I.nargs) none) ob (ST ++ X) h' := by
    refine ⟨L'.perm ?_, fun i t e => ?_, by simp only [List.length_append, List.length_map, List.length_replicate] at hlen ⊢; lia⟩
    · have := (p3 I.names.length (by lia)).append_right (ST ++ X)
      refine List.Perm.trans ?_ this.symm
      exact PE.perm [_, _, _] [] (.p (.a 0) (.p (.a 1) (.a 2))) (.p (.a 1) (.p (.a 0) (.a 2))) rfl
    · have : (args ++ (I.dflt.drop (args.length + I.dflt.length - I.nargs)).map T.frz)[i]? = some t := by
        unfold gv at e
        by_cases c : i < (args ++ (I.dflt.drop (args.length + I.dflt.length - I.nargs)).map T.frz).length
        · rw [List.getElem?_append_left (by simpa using c), List.getElem?_map] at e
          cases q : (args ++ (I.dflt.drop (args.length + I.dflt.length - I.nargs)).map T.frz)[i]? with
          | none => rw [q] at e; cases e
          | some u => rw [q] at e; simp at e; rw [e]
        · rw [List.getElem?_append_right (by simpa using Nat.le_of_not_lt c), List.getElem?_replicate] at e
          split at e <;> cases e
      obtain ⟨v, e1, e2⟩ := p1 i t this
      exact ⟨v, e1, by rw [Nat.zero_add] at e2; exact e2⟩
  have zpos : z = true → 0 < args.length := fun e => by have := R.one e; lia
  have zero : ∀ (ρ' : Nat → Option Value) (kp' : KP) (ob' : Ob) (σ' : Sg), (z = true → ρ' 0 = (vs ++ dv)[0]?) → Vars cx kp' ρ' σ' ob' → z = true → ∀ t0, gv σ' 0 = some t0 → ∃ v0, vs.head? = some v0 ∧ Own cx kp' v0 t0 (ob' 0) := by
    intro ρ' kp' ob' σ' hz V' ez t0 e0
    obtain ⟨v0, r0, w0⟩ := V' 0 t0 e0
    rw [hz ez] at r0
    refine ⟨v0, ?_, w0⟩
    have := zpos ez
    cases vs with
    | nil => simp at len; lia
    | cons x vs => simpa using r0
  have cut : ∀ (kp' : KP) (ob' : Ob) (o1 ST' : Lg) (h2 : Heap), Led cx kp' (fl I.names.length ob' ++ (o1 ++ (ST' ++ X))) h2 → Led cx kp' (o1 ++ ((if z then ob' 0 else []) ++ X)) h2 := by
    intro kp' ob' o1 ST' h2 L2
    cases hz : z with
    | false =>
      exact Led.dropR (r := fl I.names.length ob' ++ ST') (L2.perm (by simp only [Bool.false_eq_true, if_false]; exact PE.perm [_, _, _, _] [] (.p (.a 0) (.p (.a 1) (.p (.a 2) (.a 3)))) (.p (.p (.a 1) (.p .n (.a 3))) (.p (.a 0) (.a 2))) rfl))
    | true =>
      have : 0 < I.names.length := by have := R.one hz; lia
      refine Led.dropR (r := fl I.names.length (oset ob' 0 []) ++ ST') (L2.perm ?_)
      refine ((fl_split this).append_right _).trans ?_
      simp only [if_true]
      exact PE.perm [_, _, _, _, _] [] (.p (.p (.a 0) (.a 1)) (.p (.a 2) (.p (.a 3) (.a 4)))) (.p (.p (.a 2) (.p (.a 0) (.a 4))) (.p (.a 1) (.a 3))) rfl
  refine sndSs (n := I.names.length) (z := z) (Γ := ctxOf scope I) H F B' CF CN R3 (RS _ B') hj hfr2 ef hi I.body body R4 X X (fun _ h => h) kp _ ST _ ob r _ _ _ V W S0 e2 ?_
  cases r with
  | next σ' =>
    intro kp' ob' ρ' ST' h2 tk2 sb hz V' W' S'
    refine hr (.frz .none) σ' (.inr ⟨rfl, rfl⟩) .none kp' [] _ h2 tk2 sb (of_rep rfl) (fun ez => ?_) (cut kp' ob' [] ST' h2 S'.led)
    rw [if_pos ez]
    exact zero ρ' kp' ob' σ' hz S'.vars ez
  | ret t σ' =>
    intro v kp' ob' ρ' ST' o1 h2 tk2 sb hz V' W' w' S'
    refine hr t σ' (.inl rfl) v kp' o1 _ h2 tk2 sb w' (fun ez => ?_) (cut kp' ob' o1 ST' h2 S'.led)
    rw [if_pos ez]
    exact zero ρ' kp' ob' σ' hz S'.vars ez
  | exc m =>
    intro e b kp' ST' ox h2 tk2 sb w' K' L2
    exact exc_leaving (s := { s with heap := h2, toks := tk2 }) hfr2 ef K' L2 w' fun ox' h3 w3 L3 => he m rfl e kp' ox' h3 tk2 sb w3 (Led.dropR (r := ST') (L3.perm (by exact PE.perm [_, _, _] [] (.p (.a 0) (.p (.a 1) (.a 2))) (.p (.p (.a 0) (.a 2)) (.a 1)) rfl)))
end
end Mine.Internal
end
section
set_option maxRecDepth 10000
namespace Mine.Internal
noncomputable def b_f_get_attr : List S := [.iff (.pu .isn (.op (.attr "attrs") [(.var 0)]) (.cst .none)) [.ret (.pu (.cst .none))] [],
    .ret (.pu (.op .get [(.op (.attr "attrs") [(.var 0)]), (.var 1)]))]
noncomputable def n_f_get_attr : Info := ⟨2, [], ["v", "name"], b_f_get_attr⟩
noncomputable def b_f_names_of : List S := [.iff (.pu .eq (.op (.attr "kind") [(.var 0)]) (.cst (.str "language"))) [.fail] [],
    .iff (.pu .eq (.op (.attr "kind") [(.var 0)]) (.cst (.str "environment"))) [.fail] [],
    .asg 2 (.call .f_dim_of [(.pu (.var 0))]),
    .iff (.bop true [(.pu .isnt (.var 2) (.cst .none)), (.pu .eq (.op .len [(.var 2)]) (.cst (.int 1)))]) [.fail] [],
    .asg 4 (.call .f_get_attr [(.pu (.var 0)), (.pu (.cst (.str "names")))]),
    .iff (.pu .isn (.var 4) (.cst .none)) [.ret (.pu (.cst .none))] [],
    .ret (.frz (.lcopy (.ex (.pu (.op (.attr "items") [(.var 4)])))))]
noncomputable def n_f_names_of : Info := ⟨1, [], ["v", "tag", "dims", "rows", "names"], b_f_names_of⟩
noncomputable def b_f_dim_of : List S := [.asg 1 (.call .f_get_attr [(.pu (.var 0)), (.pu (.cst (.str "dim")))]),
    .iff (.pu .isn (.var 1) (.cst .none)) [.ret (.pu (.cst .none))] [],
    .ret (.frz (.lcopy (.ex (.pu (.op (.attr "items") [(.var 1)])))))]
noncomputable def n_f_dim_of : Info := ⟨1, [], ["v", "dims"], b_f_dim_of⟩
noncomputable def b_f_gcd : List S := [.euclid 0 1,
    .ret (.pu (.var 0))]
noncomputable def n_f_gcd : Info := ⟨2, [], ["a", "b"], b_f_gcd⟩
noncomputable def b_f_make : List S := [.iff (.pu .eq (.var 1) (.cst (.int 0))) [.iff (.pu .eq (.var 0) (.cst (.int 0))) [.ret (.pu (.glob (.tup [(.int 0), (.int 0)])))] [],
    .ret (.frz (.ite (.pu .gt (.var 0) (.cst (.int 0))) (.tup [(.pu (.cst (.int 1))), (.pu (.cst (.int 0)))]) (.tup [(.pu (.op .neg [(.cst (.int 1))])), (.pu (.cst (.int 0)))])))] [],
    .iff (.pu .lt (.var 1) (.cst (.int 0))) [.asg 0 (.pu (.op .sub [(.cst (.int 0)), (.var 0)])),
    .asg 1 (.pu (.op .sub [(.cst (.int 0)), (.var 1)]))] [],
    .asg 2 (.call .f_gcd [(.pu (.op .abs [(.var 0)])), (.pu (.var 1))]),
    .ret (.tup [(.pu (.op .fdiv [(.var 0), (.var 2)])), (.pu (.op .fdiv [(.var 1), (.var 2)]))])]
noncomputable def n_f_make : Info := ⟨2, [], ["n", "d", "common"], b_f_make⟩
noncomputable def b_f_is_na : List S := [.ret (.bop false [(.pu (.op .isn [(.var 0), (.cst .none)])), (.bop true [(.pu (.op .eq [(.op .item [(.var 0), (.cst (.int 0))]), (.cst (.int 0))])), (.pu (.op .eq [(.op .item [(.var 0), (.cst (.int 1))]), (.cst (.int 0))]))])])]
noncomputable def n_f_is_na : Info := ⟨1, [], ["x"], b_f_is_na⟩
noncomputable def b_f_is_finite : List S := [.ret (.bop true [(.pu (.op .isnt [(.var 0), (.cst .none)])), (.pu (.op .gt [(.op .item [(.var 0), (.cst (.int 1))]), (.cst (.int 0))]))])]
noncomputable def n_f_is_finite : Info := ⟨1, [], ["x"], b_f_is_finite⟩
noncomputable def b_f_marked : List S := [.iff (.bop false [(.pu .isn (.var 0) (.cst .none)), (.pu .isn (.var 1) (.cst .none))]) [.ret (.pu (.cst .none))] [],
    .ret (.pu (.glob (.tup [(.int 0), (.int 0)])))]
noncomputable def n_f_marked : Info := ⟨2, [], ["x", "y"], b_f_marked⟩
noncomputable def b_f_neg : List S := [.iff (.pu .isn (.var 0) (.cst .none)) [.ret (.pu (.cst .none))] [],
    .ret (.tup [(.pu (.op .sub [(.cst (.int 0)), (.op .item [(.var 0), (.cst (.int 0))])])), (.pu (.op .item [(.var 0), (.cst (.int 1))]))])]
noncomputable def n_f_neg : Info := ⟨1, [], ["x"], b_f_neg⟩
noncomputable def b_f_add : List S := [.iff (.bop false [(.e (.call .f_is_na [(.pu (.var 0))])), (.e (.call .f_is_na [(.pu (.var 1))]))]) [.ret (.call .f_marked [(.pu (.var 0)), (.pu (.var 1))])] [],
    .iff (.bop true [(.pu .eq (.op .item [(.var 0), (.cst (.int 1))]) (.cst (.int 0))), (.pu .eq (.op .item [(.var 1), (.cst (.int 1))]) (.cst (.int 0)))]) [.ret (.frz (.ite (.pu .eq (.op .item [(.var 0), (.cst (.int 0))]) (.op .item [(.var 1), (.cst (.int 0))])) (.pu (.var 0)) (.pu (.glob (.tup [(.int 0), (.int 0)])))))] [],
    .iff (.pu .eq (.op .item [(.var 0), (.cst (.int 1))]) (.cst (.int 0))) [.ret (.pu (.var 0))] [],
    .iff (.pu .eq (.op .item [(.var 1), (.cst (.int 1))]) (.cst (.int 0))) [.ret (.pu (.var 1))] [],
    .ret (.call .f_make [(.pu (.op .add [(.op .mul [(.op .item [(.var 0), (.cst (.int 0))]), (.op .item [(.var 1), (.cst (.int 1))])]), (.op .mul [(.op .item [(.var 1), (.cst (.int 0))]), (.op .item [(.var 0), (.cst (.int 1))])])])), (.pu (.op .mul [(.op .item [(.var 0), (.cst (.int 1))]), (.op .item [(.var 1), (.cst (.int 1))])]))])]
noncomputable def n_f_add : Info := ⟨2, [], ["x", "y"], b_f_add⟩
noncomputable def b_f_sub : List S := [.ret (.call .f_add [(.pu (.var 0)), (.call .f_neg [(.pu (.var 1))])])]
noncomputable def n_f_sub : Info := ⟨2, [], ["x", "y"], b_f_sub⟩
noncomputable def b_f_mul : List S := [.iff (.bop false [(.e (.call .f_is_na [(.pu (.var 0))])), (.e (.call .f_is_na [(.pu (.var 1))]))]) [.ret (.call .f_marked [(.pu (.var 0)), (.pu (.var 1))])] [],
    .ret (.call .f_make [(.pu (.op .mul [(.op .item [(.var 0), (.cst (.int 0))]), (.op .item [(.var 1), (.cst (.int 0))])])), (.pu (.op .mul [(.op .item [(.var 0), (.cst (.int 1))]), (.op .item [(.var 1), (.cst (.int 1))])]))])]
noncomputable def n_f_mul : Info := ⟨2, [], ["x", "y"], b_f_mul⟩
noncomputable def b_f_div : List S := [.iff (.bop false [(.e (.call .f_is_na [(.pu (.var 0))])), (.e (.call .f_is_na [(.pu (.var 1))]))]) [.ret (.call .f_marked [(.pu (.var 0)), (.pu (.var 1))])] [],
    .iff (.bop true [(.pu .eq (.op .item [(.var 0), (.cst (.int 1))]) (.cst (.int 0))), (.pu .eq (.op .item [(.var 1), (.cst (.int 1))]) (.cst (.int 0)))]) [.ret (.pu (.glob (.tup [(.int 0), (.int 0)])))] [],
    .iff (.pu .eq (.op .item [(.var 0), (.cst (.int 1))]) (.cst (.int 0))) [.ret (.frz (.ite (.pu .lt (.op .item [(.var 1), (.cst (.int 0))]) (.cst (.int 0))) (.call .f_neg [(.pu (.var 0))]) (.pu (.var 0))))] [],
    .ret (.call .f_make [(.pu (.op .mul [(.op .item [(.var 0), (.cst (.int 0))]), (.op .item [(.var 1), (.cst (.int 1))])])), (.pu (.op .mul [(.op .item [(.var 0), (.cst (.int 1))]), (.op .item [(.var 1), (.cst (.int 0))])]))])]
noncomputable def n_f_div : Info := ⟨2, [], ["x", "y"], b_f_div⟩
noncomputable def b_f_weighted : List S := [.iff (.pu .isn (.var 1) (.cst .none)) [.ret (.pu (.var 0))] [],
    .ret (.frz (.comp 2 (.range [(.pu (.op .len [(.var 0)]))]) none (.call .f_mul [(.pu (.op .item [(.var 0), (.var 2)])), (.pu (.op .item [(.var 1), (.var 2)]))])))]
noncomputable def n_f_weighted : Info := ⟨2, [], ["values", "weights", "k"], b_f_weighted⟩
noncomputable def b_f_dot : List S := [.asg 2 (.pu (.glob (.tup [(.int 0), (.int 1)]))),
    .loop 3 (.range [(.pu (.op .len [(.var 0)]))]) [.fgt [3] (.iff (.bop true [(.pu .ne (.op .item [(.op .item [(.var 0), (.var 3)]), (.cst (.int 0))]) (.cst (.int 0))), (.pu .ne (.op .item [(.op .item [(.var 1), (.var 3)]), (.cst (.int 0))]) (.cst (.int 0)))]) [.asg 2 (.call .f_add [(.pu (.var 2)), (.call .f_mul [(.pu (.op .item [(.var 0), (.var 3)])), (.pu (.op .item [(.var 1), (.var 3)]))])])] [])],
    .ret (.pu (.var 2))]
noncomputable def n_f_dot : Info := ⟨2, [], ["u", "v", "total", "k"], b_f_dot⟩
noncomputable def b_f_less_multiple : List S := [.iff (.pu .eq (.op .item [(.var 1), (.cst (.int 0))]) (.cst (.int 0))) [.ret (.pu (.var 0))] [],
    .ret (.frz (.comp 3 (.range [(.pu (.op .len [(.var 0)]))]) none (.call .f_sub [(.pu (.op .item [(.var 0), (.var 3)])), (.call .f_mul [(.pu (.var 1)), (.pu (.op .item [(.var 2), (.var 3)]))])])))]
noncomputable def n_f_less_multiple : Info := ⟨3, [], ["u", "factor", "v", "k"], b_f_less_multiple⟩
noncomputable def b_f_check_finite : List S := [.loop 2 (.ex (.pu (.var 0))) [.fgt [2] (.iff (.not (.e (.call .f_is_finite [(.pu (.var 2))]))) [.fail] [])]]
noncomputable def n_f_check_finite : Info := ⟨2, [], ["column", "name", "x"], b_f_check_finite⟩
noncomputable def b_f_check_weights : List S := [.iff (.pu .ne (.op .len [(.var 0)]) (.var 1)) [.fail] [],
    .loop 2 (.ex (.pu (.var 0))) [.fgt [2] (.iff (.bop false [(.not (.e (.call .f_is_finite [(.pu (.var 2))]))), (.pu .lt (.op .item [(.var 2), (.cst (.int 0))]) (.cst (.int 0)))]) [.fail] [])]]
noncomputable def n_f_check_weights : Info := ⟨2, [], ["weights", "count", "w"], b_f_check_weights⟩
noncomputable def b_f_orthogonal : List S := [.asg 2 (.new .fit [(.list []), (.list []), (.list []), (.list [])]),
    .loop 3 (.range [(.pu (.op .len [(.var 0)]))]) [.asg 4 (.frz (.lcopy (.ex (.pu (.op .item [(.var 0), (.var 3)]))))),
    .asg 5 (.list []),
    .loop 6 (.range [(.pu (.op .len [(.op (.attr "bases") [(.var 2)])]))]) [.asg 7 (.call .f_div [(.call .f_dot [(.call .f_weighted [(.pu (.var 4)), (.pu (.var 1))]), (.pu (.op .item [(.op (.attr "bases") [(.var 2)]), (.var 6)]))]), (.pu (.op .item [(.op (.attr "norms") [(.var 2)]), (.var 6)]))]),
    .app 5 (.pu (.var 7)),
    .fgt [6, 7] (.asg 4 (.call .f_less_multiple [(.pu (.var 4)), (.pu (.var 7)), (.pu (.op .item [(.op (.attr "bases") [(.var 2)]), (.var 6)]))]))],
    .asg 8 (.call .f_dot [(.call .f_weighted [(.pu (.var 4)), (.pu (.var 1))]), (.pu (.var 4))]),
    .fgt [3, 4, 5, 6, 7, 8] (.iff (.pu .ne (.op .item [(.var 8), (.cst (.int 0))]) (.cst (.int 0))) [.appA 2 "pivots" (.pu (.var 3)),
    .appA 2 "bases" (.pu (.var 4)),
    .appA 2 "norms" (.pu (.var 8)),
    .appA 2 "shares" (.var 5)] [])],
    .set 2 [] (.attr "rank") (.pu (.op .len [(.op (.attr "pivots") [(.var 2)])])),
    .ret (.mov 2)]
noncomputable def n_f_orthogonal : Info := ⟨2, [], ["columns", "weights", "found", "place", "base", "share", "turn", "factor", "norm"], b_f_orthogonal⟩
noncomputable def b_f_back_coefficients : List S := [.asg 1 (.lcopyP (.op (.attr "steps") [(.var 0)])),
    .loop 2 (.range [(.pu (.op .sub [(.op (.attr "rank") [(.var 0)]), (.cst (.int 1))])), (.pu (.op .neg [(.cst (.int 1))])), (.pu (.op .neg [(.cst (.int 1))]))]) [.fgt [2, 3] (.loop 3 (.range [(.pu (.op .add [(.var 2), (.cst (.int 1))])), (.pu (.op (.attr "rank") [(.var 0)]))]) [.fgt [3] (.set 1 [] (.item (.var 2)) (.call .f_sub [(.pu (.op .item [(.var 1), (.var 2)])), (.call .f_mul [(.pu (.op .item [(.op .item [(.op (.attr "shares") [(.var 0)]), (.var 3)]), (.var 2)])), (.pu (.op .item [(.var 1), (.var 3)]))])]))])],
    .ret (.var 1)]
noncomputable def n_f_back_coefficients : Info := ⟨1, [], ["fitted", "values", "k", "later"], b_f_back_coefficients⟩
noncomputable def b_f_used_rows : List S := [.iff (.pu .isn (.var 1) (.cst .none)) [.ret (.pu (.var 0))] [],
    .ret (.op .len [(.frz (.comp 2 (.ex (.pu (.var 1))) (some (.pu .ne (.op .item [(.var 2), (.cst (.int 0))]) (.cst (.int 0)))) (.pu (.var 2))))])]
noncomputable def n_f_used_rows : Info := ⟨2, [], ["count", "weights", "w"], b_f_used_rows⟩
noncomputable def b_f_fit : List S := [.loop 3 (.ex (.pu (.var 0))) [.iff (.pu .ne (.op .len [(.var 3)]) (.op .len [(.var 1)])) [.fail] [],
    .fgt [3] (.ex (.call .f_check_finite [(.pu (.var 3)), (.pu (.cst (.str "x")))]))],
    .ex (.call .f_check_finite [(.pu (.var 1)), (.pu (.cst (.str "y")))]),
    .iff (.pu .isnt (.var 2) (.cst .none)) [.ex (.call .f_check_weights [(.pu (.var 2)), (.pu (.op .len [(.var 1)]))])] [],
    .asg 4 (.call .f_orthogonal [(.pu (.var 0)), (.pu (.var 2))]),
    .asg 5 (.frz (.lcopy (.ex (.pu (.var 1))))),
    .loop 6 (.range [(.pu (.op (.attr "rank") [(.var 4)]))]) [.asg 7 (.call .f_div [(.call .f_dot [(.call .f_weighted [(.pu (.var 5)), (.pu (.var 2))]), (.pu (.op .item [(.op (.attr "bases") [(.var 4)]), (.var 6)]))]), (.pu (.op .item [(.op (.attr "norms") [(.var 4)]), (.var 6)]))]),
    .appA 4 "steps" (.pu (.var 7)),
    .fgt [6, 7] (.asg 5 (.call .f_less_multiple [(.pu (.var 5)), (.pu (.var 7)), (.pu (.op .item [(.op (.attr "bases") [(.var 4)]), (.var 6)]))]))],
    .set 4 [] (.attr "coefficients") (.rep (.frz (.list [(.pu (.cst .none))])) (.pu (.op .len [(.var 0)]))),
    .asg 8 (.callr .f_back_coefficients 4 []),
    .loop 6 (.range [(.pu (.op (.attr "rank") [(.var 4)]))]) [.fgt [6] (.set 4 [(.attr "coefficients")] (.item (.op .item [(.op (.attr "pivots") [(.var 4)]), (.var 6)])) (.pu (.op .item [(.var 8), (.var 6)])))],
    .set 4 [] (.attr "residuals") (.pu (.var 5)),
    .set 4 [] (.attr "fitted") (.comp 9 (.range [(.pu (.op .len [(.var 1)]))]) none (.call .f_sub [(.pu (.op .item [(.var 1), (.var 9)])), (.pu (.op .item [(.var 5), (.var 9)]))])),
    .set 4 [] (.attr "weights") (.pu (.var 2)),
    .set 4 [] (.attr "df") (.op .sub [(.call .f_used_rows [(.pu (.op .len [(.var 1)])), (.pu (.var 2))]), (.pu (.op (.attr "rank") [(.var 4)]))]),
    .ret (.var 4)]
noncomputable def n_f_fit : Info := ⟨3, [.none], ["columns", "y", "weights", "column", "found", "rest", "k", "step", "values", "k"], b_f_fit⟩
noncomputable def b_f_rss : List S := [.ret (.call .f_dot [(.call .f_weighted [(.pu (.op (.attr "residuals") [(.var 0)])), (.pu (.op (.attr "weights") [(.var 0)]))]), (.pu (.op (.attr "residuals") [(.var 0)]))])]
noncomputable def n_f_rss : Info := ⟨1, [], ["found"], b_f_rss⟩
noncomputable def b_f_inverse_shares : List S := [.asg 1 (.list []),
    .loop 2 (.range [(.pu (.op (.attr "rank") [(.var 0)]))]) [.asg 3 (.rep (.frz (.list [(.pu (.glob (.tup [(.int 0), (.int 1)])))])) (.pu (.op (.attr "rank") [(.var 0)]))),
    .set 3 [] (.item (.var 2)) (.pu (.glob (.tup [(.int 1), (.int 1)]))),
    .fgt [2, 3] (.app 1 (.mov 3))],
    .loop 4 (.range [(.pu (.op (.attr "rank") [(.var 0)]))]) [.fgt [2, 4, 5, 6] (.loop 2 (.range [(.pu (.op .sub [(.var 4), (.cst (.int 1))])), (.pu (.op .neg [(.cst (.int 1))])), (.pu (.op .neg [(.cst (.int 1))]))]) [.asg 5 (.pu (.glob (.tup [(.int 0), (.int 1)]))),
    .loop 6 (.range [(.pu (.op .add [(.var 2), (.cst (.int 1))])), (.pu (.op .add [(.var 4), (.cst (.int 1))]))]) [.fgt [6] (.asg 5 (.call .f_add [(.pu (.var 5)), (.call .f_mul [(.pu (.op .item [(.op .item [(.op (.attr "shares") [(.var 0)]), (.var 6)]), (.var 2)])), (.pu (.op .item [(.op .item [(.var 1), (.var 6)]), (.var 4)]))])]))],
    .fgt [2, 5, 6] (.set 1 [(.item (.var 2))] (.item (.var 4)) (.call .f_sub [(.pu (.glob (.tup [(.int 0), (.int 1)]))), (.pu (.var 5))]))])],
    .ret (.var 1)]
noncomputable def n_f_inverse_shares : Info := ⟨1, [], ["found", "rows", "i", "row", "j", "total", "k"], b_f_inverse_shares⟩
noncomputable def b_f_unscaled_covariance : List S := [.asg 1 (.call .f_inverse_shares [(.pu (.var 0))]),
    .asg 2 (.list []),
    .loop 3 (.range [(.pu (.op (.attr "rank") [(.var 0)]))]) [.asg 4 (.list []),
    .loop 5 (.range [(.pu (.op (.attr "rank") [(.var 0)]))]) [.asg 6 (.pu (.glob (.tup [(.int 0), (.int 1)]))),
    .loop 7 (.range [(.pu (.op .max [(.var 3), (.var 5)])), (.pu (.op (.attr "rank") [(.var 0)]))]) [.asg 8 (.call .f_div [(.call .f_mul [(.pu (.op .item [(.op .item [(.var 1), (.var 3)]), (.var 7)])), (.pu (.op .item [(.op .item [(.var 1), (.var 5)]), (.var 7)]))]), (.pu (.op .item [(.op (.attr "norms") [(.var 0)]), (.var 7)]))]),
    .fgt [7, 8] (.asg 6 (.call .f_add [(.pu (.var 6)), (.pu (.var 8))]))],
    .fgt [5, 6, 7, 8] (.app 4 (.pu (.var 6)))],
    .fgt [3, 4, 5, 6, 7, 8] (.app 2 (.var 4))],
    .ret (.var 2)]
noncomputable def n_f_unscaled_covariance : Info := ⟨1, [], ["found", "inverse", "rows", "i", "row", "j", "total", "k", "part"], b_f_unscaled_covariance⟩
noncomputable def b_f_variance : List S := [.ret (.call .f_div [(.call .f_rss [(.pu (.var 0))]), (.tup [(.pu (.op (.attr "df") [(.var 0)])), (.pu (.cst (.int 1)))])])]
noncomputable def n_f_variance : Info := ⟨1, [], ["found"], b_f_variance⟩
noncomputable def b_f_covariance : List S := [.asg 1 (.call .f_variance [(.pu (.var 0))]),
    .ret (.frz (.comp 2 (.ex (.call .f_unscaled_covariance [(.pu (.var 0))])) none (.frz (.comp 3 (.ex (.pu (.var 2))) none (.call .f_mul [(.pu (.var 3)), (.pu (.var 1))])))))]
noncomputable def n_f_covariance : Info := ⟨1, [], ["found", "scale", "row", "x"], b_f_covariance⟩
noncomputable def b_f_f_value : List S := [.ret (.call .f_div [(.call .f_div [(.pu (.var 0)), (.tup [(.pu (.var 1)), (.pu (.cst (.int 1)))])]), (.call .f_div [(.pu (.var 2)), (.tup [(.pu (.var 3)), (.pu (.cst (.int 1)))])])])]
noncomputable def n_f_f_value : Info := ⟨4, [], ["square", "df", "rest", "rest_df"], b_f_f_value⟩
noncomputable def b_iNull : List S := [.set 0 [] (.attr "kind") (.pu (.cst (.str "NULL"))),
    .set 0 [] (.attr "attrs") (.pu (.cst .none))]
noncomputable def n_iNull : Info := ⟨1, [], ["self"], b_iNull⟩
noncomputable def b_iVector : List S := [.set 0 [] (.attr "kind") (.pu (.var 1)),
    .set 0 [] (.attr "items") (.pu (.var 2)),
    .set 0 [] (.attr "attrs") (.pu (.var 3)),
    .set 0 [] (.attr "shared") (.pu (.cst (.bool false))),
    .set 0 [] (.attr "loose") (.pu (.cst (.bool false)))]
noncomputable def n_iVector : Info := ⟨4, [.none], ["self", "kind", "items", "attrs"], b_iVector⟩
noncomputable def b_f_null : List S := [.ret (.new .null [])]
noncomputable def n_f_null : Info := ⟨0, [], [], b_f_null⟩
noncomputable def b_f_integer : List S := [.ret (.new .vector [(.pu (.cst (.str "integer"))), (.frz (.lcopy (.ex (.pu (.var 0)))))])]
noncomputable def n_f_integer : Info := ⟨1, [], ["items"], b_f_integer⟩
noncomputable def b_f_double : List S := [.ret (.new .vector [(.pu (.cst (.str "double"))), (.frz (.lcopy (.ex (.pu (.var 0)))))])]
noncomputable def n_f_double : Info := ⟨1, [], ["items"], b_f_double⟩
noncomputable def b_f_character : List S := [.ret (.new .vector [(.pu (.cst (.str "character"))), (.frz (.lcopy (.ex (.pu (.var 0)))))])]
noncomputable def n_f_character : Info := ⟨1, [], ["items"], b_f_character⟩
noncomputable def b_f_named : List S := [.iff (.pu .isnt (.var 1) (.cst .none)) [.set 0 [] (.attr "attrs") (.dict [("names", (.frz (.call .f_character [(.pu (.var 1))])))])] [],
    .ret (.mov 0)]
noncomputable def n_f_named : Info := ⟨2, [], ["v", "names"], b_f_named⟩
noncomputable def b_f_list_of : List S := [.ret (.call .f_named [(.new .vector [(.pu (.cst (.str "list"))), (.frz (.comp 2 (.ex (.pu (.var 0))) none (.call .f_share [(.pu (.var 2))])))]), (.pu (.var 1))])]
noncomputable def n_f_list_of : Info := ⟨2, [.none], ["items", "names", "item"], b_f_list_of⟩
noncomputable def b_f_length : List S := [.asg 1 (.pu (.op (.attr "kind") [(.var 0)])),
    .iff (.pu .eq (.var 1) (.cst (.str "NULL"))) [.ret (.pu (.cst (.int 0)))] [],
    .iff (.bop false [(.e (.pu (.op (.isi .vector) [(.var 0)]))), (.pu .eq (.var 1) (.cst (.str "language")))]) [.ret (.pu (.op .len [(.op (.attr "items") [(.var 0)])]))] [],
    .iff (.pu .eq (.var 1) (.cst (.str "environment"))) [.ret (.pu (.op .len [(.op (.attr "frame") [(.var 0)])]))] [],
    .iff (.pu .eq (.var 1) (.cst (.str "dots"))) [.ret (.pu (.op .len [(.op (.attr "args") [(.var 0)])]))] [],
    .ret (.pu (.cst (.int 1)))]
noncomputable def n_f_length : Info := ⟨1, [], ["v", "kind"], b_f_length⟩
noncomputable def b_f_share : List S := [.iff (.e (.pu (.op (.isi .vector) [(.var 0)]))) [.setany 0 "shared" (.pu (.cst (.bool true)))] [],
    .ret (.pu (.var 0))]
noncomputable def n_f_share : Info := ⟨1, [], ["v"], b_f_share⟩
noncomputable def b_f_row_count : List S := [.asg 1 (.call .f_dim_of [(.pu (.var 0))]),
    .iff (.bop true [(.pu .isnt (.var 1) (.cst .none)), (.pu .eq (.op .len [(.var 1)]) (.cst (.int 2)))]) [.fail] [],
    .ret (.call .f_length [(.pu (.var 0))])]
noncomputable def n_f_row_count : Info := ⟨1, [], ["v", "dims"], b_f_row_count⟩
noncomputable def b_f_frame_of : List S := [.asg 3 (.frz (.ite (.pu .eq (.op .len [(.var 0)]) (.cst (.int 0))) (.pu (.cst (.int 0))) (.call .f_row_count [(.pu (.op .item [(.var 0), (.cst (.int 0))]))]))),
    .asg 4 (.frz (.call .f_integer [(.frz (.lcopy (.range [(.pu (.cst (.int 1))), (.pu (.op .add [(.var 3), (.cst (.int 1))]))])))])),
    .iff (.pu .isnt (.var 2) (.cst .none)) [.asg 4 (.frz (.call .f_character [(.pu (.var 2))]))] [],
    .asg 5 (.new .vector [(.pu (.cst (.str "list"))), (.frz (.comp 6 (.ex (.pu (.var 0))) none (.call .f_share [(.pu (.var 6))])))]),
    .set 5 [] (.attr "attrs") (.dict [("names", (.frz (.call .f_character [(.pu (.var 1))]))), ("class", (.frz (.call .f_character [(.frz (.list [(.pu (.cst (.str "data.frame")))]))]))), ("row.names", (.pu (.var 4)))]),
    .ret (.var 5)]
noncomputable def n_f_frame_of : Info := ⟨3, [], ["columns", "names", "row_names", "count", "heads", "frame", "column"], b_f_frame_of⟩
noncomputable def b_f_frame_row_names : List S := [.asg 1 (.call .f_get_attr [(.pu (.var 0)), (.pu (.cst (.str "row.names")))]),
    .iff (.pu .isn (.var 1) (.cst .none)) [.fail] [],
    .ret (.frz (.comp 2 (.ex (.pu (.op (.attr "items") [(.var 1)]))) none (.pu (.op .str [(.var 2)]))))]
noncomputable def n_f_frame_row_names : Info := ⟨1, [], ["frame", "heads", "item"], b_f_frame_row_names⟩
noncomputable def b_f_factor_levels : List S := [.iff (.bop true [(.pu .eq (.op (.attr "kind") [(.var 0)]) (.cst (.str "logical"))), (.cmp .isn (.call .f_dim_of [(.pu (.var 0))]) (.pu (.cst .none)))]) [.fail] [],
    .asg 2 (.call .f_get_attr [(.pu (.var 0)), (.pu (.cst (.str "levels")))]),
    .iff (.bop true [(.pu .isnt (.var 2) (.cst .none)), (.pu .eq (.op (.attr "kind") [(.var 2)]) (.cst (.str "character")))]) [.ret (.frz (.lcopy (.ex (.pu (.op (.attr "items") [(.var 2)])))))] [],
    .ret (.pu (.cst .none))]
noncomputable def n_f_factor_levels : Info := ⟨1, [], ["v", "present", "levels"], b_f_factor_levels⟩
noncomputable def b_f_matrix_value : List S := [.asg 3 (.list []),
    .loop 4 (.ex (.pu (.var 0))) [.fgt [4] (.ext 3 (.pu (.var 4)))],
    .asg 5 (.frz (.ite (.pu .isnt (.var 1) (.cst .none)) (.pu (.op .len [(.var 1)])) (.ite (.pu .gt (.op .len [(.var 0)]) (.cst (.int 0))) (.pu (.op .len [(.op .item [(.var 0), (.cst (.int 0))])])) (.pu (.cst (.int 0)))))),
    .asg 6 (.call .f_double [(.var 3)]),
    .asg 7 (.frz (.comp 8 (.ex (.tup [(.pu (.var 1)), (.pu (.var 2))])) none (.frz (.ite (.pu .isn (.var 8) (.cst .none)) (.call .f_null []) (.call .f_character [(.pu (.var 8))]))))),
    .set 6 [] (.attr "attrs") (.dict [("dim", (.frz (.call .f_integer [(.frz (.list [(.pu (.var 5)), (.pu (.op .len [(.var 0)]))]))])))]),
    .iff (.bop false [(.pu .isnt (.var 1) (.cst .none)), (.pu .isnt (.var 2) (.cst .none))]) [.set 6 [(.attr "attrs")] (.item (.cst (.str "dimnames"))) (.new .vector [(.pu (.cst (.str "list"))), (.pu (.var 7))])] [],
    .ret (.mov 6)]
noncomputable def n_f_matrix_value : Info := ⟨3, [], ["columns", "row_names", "column_names", "items", "column", "rows", "v", "heads", "names"], b_f_matrix_value⟩
noncomputable def b_f_named_doubles : List S := [.asg 2 (.call .f_double [(.pu (.var 0))]),
    .set 2 [] (.attr "attrs") (.dict [("names", (.frz (.call .f_character [(.pu (.var 1))])))]),
    .ret (.mov 2)]
noncomputable def n_f_named_doubles : Info := ⟨2, [], ["items", "names", "v"], b_f_named_doubles⟩
noncomputable def b_f_part : List S := [.asg 2 (.call .f_names_of [(.pu (.var 0))]),
    .iff (.bop false [(.pu .ne (.op (.attr "kind") [(.var 0)]) (.cst (.str "list"))), (.pu .isn (.var 2) (.cst .none)), (.pu .nin (.var 1) (.var 2))]) [.ret (.pu (.cst .none))] [],
    .ret (.pu (.op .item [(.op (.attr "items") [(.var 0)]), (.op .index [(.var 2), (.var 1)])]))]
noncomputable def n_f_part : Info := ⟨2, [], ["v", "name", "names"], b_f_part⟩
noncomputable def b_iDesign : List S := [.set 0 [] (.attr "terms") (.pu (.var 1)),
    .set 0 [] (.attr "frame") (.pu (.var 2)),
    .set 0 [] (.attr "columns") (.list []),
    .set 0 [] (.attr "names") (.list []),
    .set 0 [] (.attr "assign") (.list []),
    .set 0 [] (.attr "y") (.pu (.cst .none)),
    .set 0 [] (.attr "weights") (.pu (.cst .none)),
    .set 0 [] (.attr "offset") (.pu (.cst .none)),
    .set 0 [] (.attr "rows") (.call .f_frame_row_names [(.pu (.var 2))])]
noncomputable def n_iDesign : Info := ⟨3, [], ["self", "terms", "frame"], b_iDesign⟩
noncomputable def b_f_fit_design : List S := [.iff (.pu .isn (.op (.attr "y") [(.var 0)]) (.cst .none)) [.fail] [],
    .asg 1 (.pu (.op (.attr "y") [(.var 0)])),
    .iff (.pu .eq (.op .len [(.var 1)]) (.cst (.int 0))) [.fail] [],
    .iff (.pu .isnt (.op (.attr "offset") [(.var 0)]) (.cst .none)) [.fail] [],
    .ret (.call .f_fit [(.pu (.op (.attr "columns") [(.var 0)])), (.pu (.var 1)), (.pu (.op (.attr "weights") [(.var 0)]))])]
noncomputable def n_f_fit_design : Info := ⟨1, [], ["design", "y"], b_f_fit_design⟩
noncomputable def b_f_used_levels : List S := [.asg 1 (.call .f_get_attr [(.pu (.var 0)), (.pu (.cst (.str "levels")))]),
    .iff (.bop false [(.pu .isn (.var 1) (.cst .none)), (.pu .ne (.op (.attr "kind") [(.var 0)]) (.cst (.str "integer")))]) [.ret (.pu (.var 0))] [],
    .asg 2 (.list []),
    .asg 3 .idict,
    .loop 4 (.range [(.pu (.op .len [(.op (.attr "items") [(.var 1)])]))]) [.fgt [4] (.iff (.pu .inn (.op .add [(.var 4), (.cst (.int 1))]) (.op (.attr "items") [(.var 0)])) [.app 2 (.pu (.op .item [(.op (.attr "items") [(.var 1)]), (.var 4)])),
    .set 3 [] (.item (.op .add [(.var 4), (.cst (.int 1))])) (.pu (.op .len [(.var 2)]))] [])],
    .iff (.pu .eq (.op .len [(.var 2)]) (.op .len [(.op (.attr "items") [(.var 1)])])) [.ret (.pu (.var 0))] [],
    .asg 5 (.new .vector [(.pu (.cst (.str "integer"))), (.frz (.comp 6 (.ex (.pu (.op (.attr "items") [(.var 0)]))) none (.frz (.ite (.pu .isn (.var 6) (.cst .none)) (.pu (.cst .none)) (.pu (.op .item [(.var 3), (.var 6)]))))))]),
    .set 5 [] (.attr "attrs") (.dcopy (.pu (.op (.attr "attrs") [(.var 0)]))),
    .set 5 [(.attr "attrs")] (.item (.cst (.str "levels"))) (.call .f_character [(.var 2)]),
    .ret (.var 5)]
noncomputable def n_f_used_levels : Info := ⟨1, [], ["v", "levels", "kept", "codes", "place", "made", "item"], b_f_used_levels⟩
noncomputable def b_f_releveled : List S := [.asg 3 (.call .f_factor_levels [(.pu (.var 0))]),
    .iff (.pu .isn (.var 3) (.cst .none)) [.fail] [],
    .iff (.pu .eq (.op (.attr "kind") [(.var 0)]) (.cst (.str "logical"))) [.fail] [.asg 4 (.frz (.comp 8 (.ex (.pu (.op (.attr "items") [(.var 0)]))) none (.frz (.ite (.pu .isn (.var 8) (.cst .none)) (.pu (.cst .none)) (.pu (.op .item [(.var 3), (.op .sub [(.var 8), (.cst (.int 1))])]))))))],
    .asg 5 (.list []),
    .loop 6 (.ex (.pu (.var 4))) [.fgt [6] (.iff (.pu .isn (.var 6) (.cst .none)) [.app 5 (.pu (.cst .none))] [.iff (.pu .inn (.var 6) (.var 1)) [.app 5 (.pu (.op .add [(.op .index [(.var 1), (.var 6)]), (.cst (.int 1))]))] [.raise (.pu (.op .add [(.op .add [(.op .add [(.cst (.str "factor ")), (.var 2)]), (.cst (.str " has new level "))]), (.var 6)]))]])],
    .asg 7 (.call .f_integer [(.var 5)]),
    .set 7 [] (.attr "attrs") (.dict [("levels", (.frz (.call .f_character [(.pu (.var 1))]))), ("class", (.frz (.call .f_character [(.frz (.list [(.pu (.cst (.str "factor")))]))])))]),
    .ret (.var 7)]
noncomputable def n_f_releveled : Info := ⟨3, [], ["v", "levels", "label", "own", "names", "codes", "name", "made", "item"], b_f_releveled⟩
noncomputable def b_f_spread_rows : List S := [.asg 3 .idict,
    .loop 4 (.range [(.pu (.op .len [(.var 1)]))]) [.fgt [4] (.set 3 [] (.item (.op .item [(.var 1), (.var 4)])) (.pu (.var 4)))],
    .asg 5 (.list []),
    .loop 6 (.range [(.pu (.var 2))]) [.asg 7 (.list []),
    .loop 8 (.range [(.pu (.var 2))]) [.fgt [8] (.iff (.bop true [(.pu .inn (.var 6) (.var 3)), (.pu .inn (.var 8) (.var 3))]) [.app 7 (.pu (.op .item [(.op .item [(.var 0), (.op .item [(.var 3), (.var 6)])]), (.op .item [(.var 3), (.var 8)])]))] [.app 7 (.pu (.cst .none))])],
    .fgt [6, 7, 8] (.app 5 (.var 7))],
    .ret (.var 5)]
noncomputable def n_f_spread_rows : Info := ⟨3, [], ["rows", "pivots", "count", "places", "turn", "spread", "i", "row", "j"], b_f_spread_rows⟩
noncomputable def b_f_vcov_matrix : List S := [.asg 2 (.call .f_spread_rows [(.call .f_covariance [(.pu (.var 1))]), (.pu (.op (.attr "pivots") [(.var 1)])), (.pu (.op .len [(.op (.attr "columns") [(.var 0)])]))]),
    .ret (.frz (.call .f_matrix_value [(.pu (.var 2)), (.pu (.op (.attr "names") [(.var 0)])), (.pu (.op (.attr "names") [(.var 0)]))]))]
noncomputable def n_f_vcov_matrix : Info := ⟨2, [], ["design", "found", "rows"], b_f_vcov_matrix⟩
noncomputable def b_f_weight_at : List S := [.ret (.frz (.ite (.pu .isn (.op (.attr "weights") [(.var 0)]) (.cst .none)) (.tup [(.pu (.cst (.int 1))), (.pu (.cst (.int 1)))]) (.pu (.op .item [(.op (.attr "weights") [(.var 0)]), (.var 1)]))))]
noncomputable def n_f_weight_at : Info := ⟨2, [], ["design", "k"], b_f_weight_at⟩
noncomputable def b_f_model_square : List S := [.asg 2 (.pu (.op .len [(.op (.attr "fitted") [(.var 1)])])),
    .asg 3 (.pu (.glob (.tup [(.int 0), (.int 1)]))),
    .fgt [4, 5, 6] (.iff (.e (.pu (.op (.attr "intercept") [(.op (.attr "terms") [(.var 0)])]))) [.asg 4 (.pu (.glob (.tup [(.int 0), (.int 1)]))),
    .asg 5 (.pu (.glob (.tup [(.int 0), (.int 1)]))),
    .loop 6 (.range [(.pu (.var 2))]) [.asg 4 (.call .f_add [(.pu (.var 4)), (.call .f_mul [(.call .f_weight_at [(.pu (.var 0)), (.pu (.var 6))]), (.pu (.op .item [(.op (.attr "fitted") [(.var 1)]), (.var 6)]))])]),
    .fgt [6] (.asg 5 (.call .f_add [(.pu (.var 5)), (.call .f_weight_at [(.pu (.var 0)), (.pu (.var 6))])]))],
    .asg 3 (.call .f_div [(.pu (.var 4)), (.pu (.var 5))])] []),
    .asg 7 (.pu (.glob (.tup [(.int 0), (.int 1)]))),
    .loop 6 (.range [(.pu (.var 2))]) [.asg 8 (.call .f_sub [(.pu (.op .item [(.op (.attr "fitted") [(.var 1)]), (.var 6)])), (.pu (.var 3))]),
    .fgt [6, 8] (.asg 7 (.call .f_add [(.pu (.var 7)), (.call .f_mul [(.call .f_weight_at [(.pu (.var 0)), (.pu (.var 6))]), (.call .f_mul [(.pu (.var 8)), (.pu (.var 8))])])]))],
    .ret (.pu (.var 7))]
noncomputable def n_f_model_square : Info := ⟨2, [], ["design", "found", "count", "mean", "total", "weight", "k", "square", "away"], b_f_model_square⟩
noncomputable def b_f_coefficient_matrix : List S := [.asg 2 (.call .f_covariance [(.pu (.var 1))]),
    .asg 3 (.frz (.comp 5 (.ex (.pu (.op (.attr "pivots") [(.var 1)]))) none (.pu (.op .item [(.op (.attr "names") [(.var 0)]), (.var 5)])))),
    .asg 4 (.frz (.comp 6 (.ex (.pu (.op (.attr "pivots") [(.var 1)]))) none (.pu (.op .item [(.op (.attr "coefficients") [(.var 1)]), (.var 6)])))),
    .ret (.frz (.call .f_matrix_value [(.frz (.list [(.pu (.var 4)), (.frz (.comp 7 (.range [(.pu (.op (.attr "rank") [(.var 1)]))]) none (.pu (.op .item [(.op .item [(.var 2), (.var 7)]), (.var 7)]))))])), (.pu (.var 3)), (.frz (.list [(.pu (.cst (.str "Estimate"))), (.pu (.cst (.str "Variance")))]))]))]
noncomputable def n_f_coefficient_matrix : Info := ⟨2, [], ["design", "found", "rows", "names", "values", "place", "place", "k"], b_f_coefficient_matrix⟩
noncomputable def b_f_summary_parts : List S := [.asg 3 (.call .f_model_square [(.pu (.var 0)), (.pu (.var 1))]),
    .asg 4 (.call .f_rss [(.pu (.var 1))]),
    .asg 5 (.frz (.ite (.e (.pu (.op (.attr "intercept") [(.op (.attr "terms") [(.var 0)])]))) (.pu (.cst (.int 1))) (.pu (.cst (.int 0))))),
    .asg 6 (.call .f_div [(.pu (.var 3)), (.call .f_add [(.pu (.var 3)), (.pu (.var 4))])]),
    .asg 7 (.pu (.op .sub [(.op (.attr "rank") [(.var 1)]), (.var 5)])),
    .asg 8 (.call .f_sub [(.tup [(.pu (.cst (.int 1))), (.pu (.cst (.int 1)))]), (.call .f_mul [(.call .f_sub [(.tup [(.pu (.cst (.int 1))), (.pu (.cst (.int 1)))]), (.pu (.var 6))]), (.call .f_div [(.tup [(.pu (.op .sub [(.op .add [(.op (.attr "df") [(.var 1)]), (.op (.attr "rank") [(.var 1)])]), (.var 5)])), (.pu (.cst (.int 1)))]), (.tup [(.pu (.op (.attr "df") [(.var 1)])), (.pu (.cst (.int 1)))])])])]),
    .asg 9 (.frz (.comp 14 (.ex (.pu (.op (.attr "pivots") [(.var 1)]))) none (.pu (.op .item [(.op (.attr "names") [(.var 0)]), (.var 14)])))),
    .asg 10 (.list [(.pu (.var 2)), (.frz (.call .f_named_doubles [(.pu (.op (.attr "residuals") [(.var 1)])), (.pu (.op (.attr "rows") [(.var 0)]))])), (.call .f_coefficient_matrix [(.pu (.var 0)), (.pu (.var 1))]), (.frz (.call .f_double [(.frz (.list [(.call .f_variance [(.pu (.var 1))])]))])), (.frz (.call .f_integer [(.frz (.list [(.pu (.op (.attr "rank") [(.var 1)])), (.pu (.op (.attr "df") [(.var 1)])), (.pu (.op .len [(.op (.attr "columns") [(.var 0)])]))]))])), (.frz (.call .f_double [(.frz (.list [(.pu (.var 6))]))])), (.frz (.call .f_double [(.frz (.list [(.pu (.var 8))]))]))]),
    .asg 11 (.list [(.pu (.cst (.str "call"))), (.pu (.cst (.str "residuals"))), (.pu (.cst (.str "coefficients"))), (.pu (.cst (.str "sigma2"))), (.pu (.cst (.str "df"))), (.pu (.cst (.str "r.squared"))), (.pu (.cst (.str "adj.r.squared")))]),
    .fgt [12] (.iff (.pu .gt (.var 7) (.cst (.int 0))) [.asg 12 (.call .f_f_value [(.pu (.var 3)), (.pu (.var 7)), (.pu (.var 4)), (.pu (.op (.attr "df") [(.var 1)]))]),
    .app 10 (.frz (.call .f_named_doubles [(.frz (.list [(.pu (.var 12)), (.tup [(.pu (.var 7)), (.pu (.cst (.int 1)))]), (.tup [(.pu (.op (.attr "df") [(.var 1)])), (.pu (.cst (.int 1)))])])), (.frz (.list [(.pu (.cst (.str "value"))), (.pu (.cst (.str "numdf"))), (.pu (.cst (.str "dendf")))]))])),
    .app 11 (.pu (.cst (.str "fstatistic")))] []),
    .app 10 (.frz (.call .f_matrix_value [(.call .f_unscaled_covariance [(.pu (.var 1))]), (.pu (.var 9)), (.pu (.var 9))])),
    .app 11 (.pu (.cst (.str "cov.unscaled"))),
    .asg 13 (.call .f_list_of [(.var 10), (.var 11)]),
    .set 13 [(.attr "attrs")] (.item (.cst (.str "class"))) (.call .f_character [(.frz (.list [(.pu (.cst (.str "summary.lm")))]))]),
    .ret (.var 13)]
noncomputable def n_f_summary_parts : Info := ⟨3, [], ["design", "found", "call", "explained", "rest", "free", "share_of", "steps", "adjusted", "used", "values", "names", "ratio", "made", "place"], b_f_summary_parts⟩
noncomputable def b_iTerms : List S := [.set 0 [] (.attr "response") (.pu (.var 1)),
    .set 0 [] (.attr "variables") (.pu (.var 2)),
    .set 0 [] (.attr "factors") (.pu (.var 3)),
    .set 0 [] (.attr "intercept") (.pu (.var 4)),
    .set 0 [] (.attr "offsets") (.pu (.var 5))]
noncomputable def n_iTerms : Info := ⟨6, [], ["self", "response", "variables", "factors", "intercept", "offsets"], b_iTerms⟩
noncomputable def b_f_law_figures : List S := [.asg 1 (.list []),
    .loop 2 (.ex (.frz (.slice (.pu (.var 0)) (.pu (.cst (.int 60)))))) [.asg 3 (.frz (.ite (.pu .ge (.var 2) (.cst (.int 0))) (.pu (.var 2)) (.pu (.op .neg [(.var 2)])))),
    .app 1 (.pu (.op .mod [(.var 3), (.cst (.int 89))])),
    .asg 3 (.pu (.op .fdiv [(.var 3), (.cst (.int 89))])),
    .fgt [2, 3, 4] (.loop 4 (.range [(.pu (.cst (.int 10)))]) [.fgt [4] (.iff (.pu .gt (.var 3) (.cst (.int 0))) [.app 1 (.pu (.op .mod [(.var 3), (.cst (.int 89))])),
    .asg 3 (.pu (.op .fdiv [(.var 3), (.cst (.int 89))]))] [])])],
    .asg 1 (.slice (.var 1) (.pu (.cst (.int 80)))),
    .rev 1,
    .ret (.mov 1)]
noncomputable def n_f_law_figures : Info := ⟨1, [], ["script", "row", "cell", "figure", "lap"], b_f_law_figures⟩
noncomputable def b_f_law_next : List S := [.ret (.frz (.ite (.nonempty 0) (.op .mod [(.frz (.pop 0)), (.pu (.var 1))]) (.pu (.cst (.int 0)))))]
noncomputable def n_f_law_next : Info := ⟨2, [], ["row", "limit"], b_f_law_next⟩
noncomputable def b_f_law_low : List S := [.iff (.pu .lt (.var 1) (.cst (.int 0))) [.asg 0 (.pu (.op .neg [(.var 0)])),
    .asg 1 (.pu (.op .neg [(.var 1)]))] [],
    .asg 2 (.frz (.ite (.pu .ge (.var 0) (.cst (.int 0))) (.pu (.var 0)) (.pu (.op .neg [(.var 0)])))),
    .asg 3 (.pu (.var 1)),
    .euclid 3 2,
    .ret (.tup [(.pu (.op .fdiv [(.var 0), (.var 3)])), (.pu (.op .fdiv [(.var 1), (.var 3)]))])]
noncomputable def n_f_law_low : Info := ⟨2, [], ["n", "d", "a", "b"], b_f_law_low⟩
noncomputable def b_f_law_add : List S := [.ret (.call .f_law_low [(.pu (.op .add [(.op .mul [(.op .item [(.var 0), (.cst (.int 0))]), (.op .item [(.var 1), (.cst (.int 1))])]), (.op .mul [(.op .item [(.var 1), (.cst (.int 0))]), (.op .item [(.var 0), (.cst (.int 1))])])])), (.pu (.op .mul [(.op .item [(.var 0), (.cst (.int 1))]), (.op .item [(.var 1), (.cst (.int 1))])]))])]
noncomputable def n_f_law_add : Info := ⟨2, [], ["x", "y"], b_f_law_add⟩
noncomputable def b_f_law_mul : List S := [.ret (.call .f_law_low [(.pu (.op .mul [(.op .item [(.var 0), (.cst (.int 0))]), (.op .item [(.var 1), (.cst (.int 0))])])), (.pu (.op .mul [(.op .item [(.var 0), (.cst (.int 1))]), (.op .item [(.var 1), (.cst (.int 1))])]))])]
noncomputable def n_f_law_mul : Info := ⟨2, [], ["x", "y"], b_f_law_mul⟩
noncomputable def b_f_law_by : List S := [.ret (.call .f_law_low [(.pu (.op .mul [(.op .item [(.var 0), (.cst (.int 0))]), (.op .item [(.var 1), (.cst (.int 1))])])), (.pu (.op .mul [(.op .item [(.var 0), (.cst (.int 1))]), (.op .item [(.var 1), (.cst (.int 0))])]))])]
noncomputable def n_f_law_by : Info := ⟨2, [], ["x", "y"], b_f_law_by⟩
noncomputable def b_f_law_minus : List S := [.ret (.call .f_law_add [(.pu (.var 0)), (.tup [(.pu (.op .neg [(.op .item [(.var 1), (.cst (.int 0))])])), (.pu (.op .item [(.var 1), (.cst (.int 1))]))])])]
noncomputable def n_f_law_minus : Info := ⟨2, [], ["x", "y"], b_f_law_minus⟩
noncomputable def b_f_law_dot : List S := [.asg 3 (.tup [(.pu (.cst (.int 0))), (.pu (.cst (.int 1)))]),
    .loop 4 (.range [(.pu (.op .len [(.var 0)]))]) [.fgt [4] (.asg 3 (.call .f_law_add [(.pu (.var 3)), (.call .f_law_mul [(.call .f_law_mul [(.pu (.op .item [(.var 0), (.var 4)])), (.pu (.op .item [(.var 1), (.var 4)]))]), (.pu (.op .item [(.var 2), (.var 4)]))])]))],
    .ret (.pu (.var 3))]
noncomputable def n_f_law_dot : Info := ⟨3, [], ["u", "v", "w", "total", "spot"], b_f_law_dot⟩
noncomputable def b_f_law_value : List S := [.ret (.op .item [(.frz (.list [(.tup [(.pu (.cst (.int 0))), (.pu (.cst (.int 1)))]), (.tup [(.pu (.cst (.int 1))), (.pu (.cst (.int 1)))]), (.tup [(.pu (.cst (.int 2))), (.pu (.cst (.int 1)))]), (.tup [(.pu (.op .neg [(.cst (.int 1))])), (.pu (.cst (.int 1)))]), (.tup [(.pu (.cst (.int 1))), (.pu (.cst (.int 2)))]), (.tup [(.pu (.cst (.int 3))), (.pu (.cst (.int 1)))])])), (.callr .f_law_next 0 [(.pu (.cst (.int 6)))])])]
noncomputable def n_f_law_value : Info := ⟨1, [], ["row"], b_f_law_value⟩
noncomputable def b_f_law_columns : List S := [.asg 2 (.list []),
    .loop 3 (.range [(.callr .f_law_next 0 [(.pu (.cst (.int 4)))])]) [.fgt [3] (.iff (.bop true [(.pu .gt (.op .len [(.var 2)]) (.cst (.int 0))), (.cmp .eq (.callr .f_law_next 0 [(.pu (.cst (.int 4)))]) (.pu (.cst (.int 3))))]) [.app 2 (.frz (.comp 4 (.ex (.pu (.op .item [(.var 2), (.cst (.int 0))]))) none (.call .f_law_mul [(.tup [(.pu (.cst (.int 2))), (.pu (.cst (.int 1)))]), (.pu (.var 4))])))] [.app 2 (.frz (.comp 5 (.range [(.pu (.var 1))]) none (.callr .f_law_value 0 [])))])],
    .ret (.var 2)]
noncomputable def n_f_law_columns : Info := ⟨2, [], ["row", "many", "columns", "lap", "x", "spot"], b_f_law_columns⟩
noncomputable def b_f_law_square : List S := [.iff (.pu .eq (.var 2) (.cst (.int 0))) [.ret (.call .f_law_dot [(.pu (.var 0)), (.pu (.var 0)), (.pu (.var 1))])] [],
    .asg 3 (.frz (.rep (.frz (.list [(.tup [(.pu (.cst (.int 1))), (.pu (.cst (.int 1)))])])) (.pu (.op .len [(.var 0)])))),
    .asg 4 (.call .f_law_by [(.call .f_law_dot [(.pu (.var 0)), (.pu (.var 3)), (.pu (.var 1))]), (.call .f_law_dot [(.pu (.var 3)), (.pu (.var 3)), (.pu (.var 1))])]),
    .asg 5 (.frz (.comp 6 (.ex (.pu (.var 0))) none (.call .f_law_minus [(.pu (.var 6)), (.pu (.var 4))]))),
    .ret (.call .f_law_dot [(.pu (.var 5)), (.pu (.var 5)), (.pu (.var 1))])]
noncomputable def n_f_law_square : Info := ⟨3, [], ["y", "weights", "free", "ones", "mean", "away", "x"], b_f_law_square⟩
noncomputable def b_f_law_factors : List S := [.asg 1 (.frz (.list [(.pu (.cst (.str "p"))), (.pu (.cst (.str "q"))), (.pu (.cst (.str "r"))), (.pu (.cst (.str "s"))), (.pu (.cst (.str "t")))])),
    .asg 2 (.frz (.slice (.pu (.var 1)) (.op .add [(.pu (.cst (.int 1))), (.callr .f_law_next 0 [(.pu (.cst (.int 5)))])]))),
    .asg 3 (.frz (.cat (.frz (.list [(.pu (.cst .none))])) (.frz (.lcopy (.range [(.pu (.cst (.int 1))), (.pu (.op .add [(.op .len [(.var 2)]), (.cst (.int 1))]))]))))),
    .asg 4 (.frz (.comp 12 (.range [(.callr .f_law_next 0 [(.pu (.cst (.int 5)))])]) none (.op .item [(.pu (.var 3)), (.callr .f_law_next 0 [(.pu (.op .len [(.var 3)]))])]))),
    .asg 5 (.frz (.new .vector [(.pu (.cst (.str "integer"))), (.frz (.lcopy (.ex (.pu (.var 4))))), (.frz (.dict [("levels", (.frz (.call .f_character [(.pu (.var 2))]))), ("class", (.frz (.call .f_character [(.frz (.list [(.pu (.cst (.str "factor")))]))])))]))])),
    .asg 6 (.frz (.comp 13 (.ex (.pu (.var 4))) none (.frz (.ite (.pu .isn (.var 13) (.cst .none)) (.pu (.cst .none)) (.pu (.op .item [(.var 2), (.op .sub [(.var 13), (.cst (.int 1))])])))))),
    .asg 7 (.call .f_used_levels [(.pu (.var 5))]),
    .asg 8 (.frz (.comp 14 (.ex (.pu (.var 2))) (some (.pu .inn (.var 14) (.var 6))) (.pu (.var 14)))),
    .iff (.bop false [(.cmp .ne (.frz (.lcopy (.ex (.pu (.op (.attr "items") [(.op .item [(.op (.attr "attrs") [(.var 7)]), (.cst (.str "levels"))])]))))) (.pu (.var 8))), (.pu .ne (.op (.attr "items") [(.var 5)]) (.var 4))]) [.ret (.pu (.cst (.bool false)))] [],
    .iff (.cmp .ne (.frz (.comp 15 (.ex (.pu (.op (.attr "items") [(.var 7)]))) none (.frz (.ite (.pu .isn (.var 15) (.cst .none)) (.pu (.cst .none)) (.pu (.op .item [(.var 8), (.op .sub [(.var 15), (.cst (.int 1))])])))))) (.pu (.var 6))) [.ret (.pu (.cst (.bool false)))] [],
    .asg 9 (.frz (.comp 16 (.ex (.pu (.var 1))) (some (.cmp .gt (.callr .f_law_next 0 [(.pu (.cst (.int 3)))]) (.pu (.cst (.int 0))))) (.pu (.var 16)))),
    .asg 10 (.call .f_law_releveled [(.pu (.var 5)), (.pu (.var 9))]),
    .asg 11 (.frz (.comp 17 (.ex (.pu (.var 6))) (some (.bop true [(.pu .isnt (.var 17) (.cst .none)), (.pu .nin (.var 17) (.var 9))])) (.pu (.var 17)))),
    .iff (.cmp .ne (.pu (.var 11)) (.frz (.list []))) [.ret (.pu (.op .eq [(.var 10), (.op .add [(.cst (.str "factor g has new level ")), (.op .item [(.var 11), (.cst (.int 0))])])]))] [],
    .iff (.bop false [(.e (.pu (.op .isstr [(.var 10)]))), (.cmp .ne (.frz (.lcopy (.ex (.pu (.op (.attr "items") [(.op .item [(.op (.attr "attrs") [(.var 10)]), (.cst (.str "levels"))])]))))) (.pu (.var 9)))]) [.ret (.pu (.cst (.bool false)))] [],
    .ret (.op .eq [(.frz (.comp 18 (.ex (.pu (.op (.attr "items") [(.var 10)]))) none (.frz (.ite (.pu .isn (.var 18) (.cst .none)) (.pu (.cst .none)) (.pu (.op .item [(.var 9), (.op .sub [(.var 18), (.cst (.int 1))])])))))), (.pu (.var 6))])]
noncomputable def n_f_law_factors : Info := ⟨1, [], ["row", "every", "levels", "codes", "items", "v", "texts", "found", "kept", "known", "told", "strange", "lap", "item", "one", "item", "one", "one", "item"], b_f_law_factors⟩
noncomputable def b_f_law_covariance : List S := [.asg 4 (.frz (.comp 16 (.ex (.pu (.op (.attr "pivots") [(.var 0)]))) none (.pu (.op .item [(.op (.attr "columns") [(.var 1)]), (.var 16)])))),
    .asg 5 (.pu (.op .len [(.op (.attr "columns") [(.var 1)])])),
    .asg 6 (.call .f_vcov_matrix [(.pu (.var 1)), (.pu (.var 0))]),
    .iff (.cmp .ne (.frz (.lcopy (.ex (.pu (.op (.attr "items") [(.op .item [(.op (.attr "attrs") [(.var 6)]), (.cst (.str "dim"))])]))))) (.frz (.list [(.pu (.var 5)), (.pu (.var 5))]))) [.ret (.pu (.cst (.bool false)))] [],
    .asg 7 (.frz (.comp 17 (.range [(.pu (.var 5))]) none (.frz (.comp 18 (.range [(.pu (.var 5))]) none (.pu (.op .item [(.op (.attr "items") [(.var 6)]), (.op .add [(.op .mul [(.var 18), (.var 5)]), (.var 17)])])))))),
    .loop 8 (.range [(.pu (.var 5))]) [.fgt [8, 9, 10] (.loop 9 (.range [(.pu (.var 5))]) [.asg 10 (.bop false [(.pu (.op .nin [(.var 8), (.op (.attr "pivots") [(.var 0)])])), (.pu (.op .nin [(.var 9), (.op (.attr "pivots") [(.var 0)])]))]),
    .fgt [9, 10] (.iff (.pu .ne (.op .isn [(.op .item [(.op .item [(.var 7), (.var 8)]), (.var 9)]), (.cst .none)]) (.var 10)) [.ret (.pu (.cst (.bool false)))] [])])],
    .iff (.pu .eq (.op (.attr "df") [(.var 0)]) (.cst (.int 0))) [.ret (.pu (.cst (.bool true)))] [],
    .asg 11 (.frz (.comp 19 (.ex (.pu (.op (.attr "pivots") [(.var 0)]))) none (.frz (.comp 20 (.ex (.pu (.op (.attr "pivots") [(.var 0)]))) none (.pu (.op .item [(.op .item [(.var 7), (.var 19)]), (.var 20)])))))),
    .asg 12 (.frz (.comp 21 (.ex (.pu (.var 4))) none (.frz (.comp 22 (.ex (.pu (.var 4))) none (.call .f_law_dot [(.pu (.var 21)), (.pu (.var 22)), (.pu (.var 2))]))))),
    .asg 13 (.call .f_law_mul [(.pu (.var 3)), (.tup [(.pu (.cst (.int 1))), (.pu (.op (.attr "df") [(.var 0)]))])]),
    .loop 8 (.range [(.pu (.op .len [(.var 4)]))]) [.fgt [8, 9, 14, 15] (.loop 9 (.range [(.pu (.op .len [(.var 4)]))]) [.asg 14 (.tup [(.pu (.cst (.int 0))), (.pu (.cst (.int 1)))]),
    .loop 15 (.range [(.pu (.op .len [(.var 4)]))]) [.fgt [15] (.asg 14 (.call .f_law_add [(.pu (.var 14)), (.call .f_law_mul [(.pu (.op .item [(.op .item [(.var 11), (.var 8)]), (.var 15)])), (.pu (.op .item [(.op .item [(.var 12), (.var 15)]), (.var 9)]))])]))],
    .fgt [9, 14, 15] (.iff (.cmp .ne (.pu (.var 14)) (.frz (.ite (.pu .eq (.var 8) (.var 9)) (.pu (.var 13)) (.tup [(.pu (.cst (.int 0))), (.pu (.cst (.int 1)))])))) [.ret (.pu (.cst (.bool false)))] [])])],
    .ret (.pu (.cst (.bool true)))]
noncomputable def n_f_law_covariance : Info := ⟨4, [], ["found", "design", "weights", "left", "used", "many", "told", "rows", "up", "down", "lone", "inner", "crossings", "scale", "total", "k", "spot", "up", "down", "up", "down", "one", "two"], b_f_law_covariance⟩
noncomputable def b_f_law : List S := [.asg 1 (.call .f_law_figures [(.pu (.var 0))]),
    .asg 2 (.op .add [(.pu (.cst (.int 2))), (.callr .f_law_next 1 [(.pu (.cst (.int 4)))])]),
    .asg 3 (.callr .f_law_next 1 [(.pu (.cst (.int 2)))]),
    .asg 4 (.op .eq [(.callr .f_law_next 1 [(.pu (.cst (.int 3)))]), (.pu (.cst (.int 2)))]),
    .asg 5 (.callr .f_law_columns 1 [(.pu (.var 2))]),
    .asg 6 (.frz (.comp 20 (.range [(.pu (.var 2))]) none (.callr .f_law_value 1 []))),
    .asg 7 (.frz (.comp 21 (.range [(.pu (.var 2))]) none (.frz (.ite (.e (.pu (.var 4))) (.op .item [(.frz (.list [(.tup [(.pu (.cst (.int 1))), (.pu (.cst (.int 1)))]), (.tup [(.pu (.cst (.int 2))), (.pu (.cst (.int 1)))]), (.tup [(.pu (.cst (.int 1))), (.pu (.cst (.int 3)))])])), (.callr .f_law_next 1 [(.pu (.cst (.int 3)))])]) (.tup [(.pu (.cst (.int 1))), (.pu (.cst (.int 1)))]))))),
    .iff (.pu .eq (.var 3) (.cst (.int 1))) [.asg 5 (.frz (.cat (.frz (.list [(.frz (.rep (.frz (.list [(.tup [(.pu (.cst (.int 1))), (.pu (.cst (.int 1)))])])) (.pu (.var 2))))])) (.pu (.var 5))))] [],
    .asg 8 (.frz (.comp 22 (.range [(.pu (.op .len [(.var 5)]))]) none (.pu (.op .add [(.cst (.str "v")), (.op .str [(.var 22)])])))),
    .asg 9 (.new .design [(.frz (.new .terms [(.frz (.call .f_null [])), (.frz (.list [])), (.frz (.list [])), (.pu (.op .eq [(.var 3), (.cst (.int 1))])), (.frz (.list []))])), (.call .f_frame_of [(.frz (.list [(.frz (.call .f_double [(.pu (.var 6))]))])), (.frz (.list [(.pu (.cst (.str "y")))])), (.pu (.cst .none))])]),
    .set 9 [] (.attr "columns") (.pu (.var 5)),
    .set 9 [] (.attr "names") (.pu (.var 8)),
    .set 9 [] (.attr "assign") (.lcopy (.range [(.pu (.op .sub [(.cst (.int 1)), (.var 3)])), (.pu (.op .add [(.op .sub [(.cst (.int 1)), (.var 3)]), (.op .len [(.var 5)])]))])),
    .set 9 [] (.attr "y") (.pu (.var 6)),
    .iff (.e (.pu (.var 4))) [.set 9 [] (.attr "weights") (.pu (.var 7))] [],
    .asg 10 (.call .f_fit_design [(.var 9)]),
    .asg 11 (.call .f_law_dot [(.pu (.op (.attr "residuals") [(.var 10)])), (.pu (.op (.attr "residuals") [(.var 10)])), (.pu (.var 7))]),
    .iff (.not (.e (.call .f_law_covariance [(.pu (.var 10)), (.var 9), (.pu (.var 7)), (.pu (.var 11))]))) [.ret (.pu (.cst (.bool false)))] [],
    .asg 12 (.call .f_summary_parts [(.var 9), (.pu (.var 10)), (.frz (.call .f_null []))]),
    .asg 13 (.call .f_law_square [(.pu (.var 6)), (.pu (.var 7)), (.pu (.var 3))]),
    .asg 14 (.frz (.comp 23 (.ex (.pu (.op (.attr "pivots") [(.var 10)]))) none (.pu (.op .item [(.var 8), (.var 23)])))),
    .asg 15 (.call .f_part [(.pu (.var 12)), (.pu (.cst (.str "coefficients")))]),
    .iff (.cmp .ne (.frz (.lcopy (.ex (.pu (.op (.attr "items") [(.op .item [(.op (.attr "attrs") [(.var 15)]), (.cst (.str "dim"))])]))))) (.frz (.list [(.pu (.op (.attr "rank") [(.var 10)])), (.pu (.cst (.int 2)))]))) [.ret (.pu (.cst (.bool false)))] [],
    .iff (.cmp .ne (.frz (.lcopy (.ex (.frz (.slice (.pu (.op (.attr "items") [(.var 15)])) (.pu (.op (.attr "rank") [(.var 10)]))))))) (.frz (.comp 24 (.ex (.pu (.op (.attr "pivots") [(.var 10)]))) none (.pu (.op .item [(.op (.attr "coefficients") [(.var 10)]), (.var 24)]))))) [.ret (.pu (.cst (.bool false)))] [],
    .iff (.bop true [(.pu .gt (.op (.attr "rank") [(.var 10)]) (.cst (.int 0))), (.cmp .ne (.frz (.lcopy (.ex (.pu (.op (.attr "items") [(.op .item [(.op (.attr "items") [(.op .item [(.op (.attr "attrs") [(.var 15)]), (.cst (.str "dimnames"))])]), (.cst (.int 0))])]))))) (.pu (.var 14)))]) [.ret (.pu (.cst (.bool false)))] [],
    .iff (.cmp .ne (.frz (.lcopy (.ex (.op (.attr "items") [(.call .f_part [(.pu (.var 12)), (.pu (.cst (.str "df")))])])))) (.frz (.list [(.pu (.op (.attr "rank") [(.var 10)])), (.pu (.op (.attr "df") [(.var 10)])), (.pu (.op .len [(.var 5)]))]))) [.ret (.pu (.cst (.bool false)))] [],
    .iff (.cmp .ne (.frz (.lcopy (.ex (.op (.attr "items") [(.op .item [(.op (.attr "attrs") [(.call .f_part [(.pu (.var 12)), (.pu (.cst (.str "residuals")))])]), (.pu (.cst (.str "names")))])])))) (.frz (.comp 25 (.range [(.pu (.var 2))]) none (.pu (.op .str [(.op .add [(.var 25), (.cst (.int 1))])]))))) [.ret (.pu (.cst (.bool false)))] [],
    .iff (.cmp .ne (.op .isn [(.call .f_part [(.pu (.var 12)), (.pu (.cst (.str "fstatistic")))]), (.pu (.cst .none))]) (.pu (.op .le [(.op (.attr "rank") [(.var 10)]), (.var 3)]))) [.ret (.pu (.cst (.bool false)))] [],
    .iff (.bop true [(.pu .gt (.op (.attr "df") [(.var 10)]) (.cst (.int 0))), (.cmp .ne (.op .item [(.op (.attr "items") [(.call .f_part [(.pu (.var 12)), (.pu (.cst (.str "sigma2")))])]), (.pu (.cst (.int 0)))]) (.call .f_law_mul [(.pu (.var 11)), (.tup [(.pu (.cst (.int 1))), (.pu (.op (.attr "df") [(.var 10)]))])]))]) [.ret (.pu (.cst (.bool false)))] [],
    .fgt [16, 17] (.iff (.pu .ne (.op .item [(.var 13), (.cst (.int 0))]) (.cst (.int 0))) [.asg 16 (.call .f_law_by [(.call .f_law_minus [(.pu (.var 13)), (.pu (.var 11))]), (.pu (.var 13))]),
    .iff (.cmp .ne (.op .item [(.op (.attr "items") [(.call .f_part [(.pu (.var 12)), (.pu (.cst (.str "r.squared")))])]), (.pu (.cst (.int 0)))]) (.pu (.var 16))) [.ret (.pu (.cst (.bool false)))] [],
    .fgt [17] (.iff (.pu .gt (.op (.attr "df") [(.var 10)]) (.cst (.int 0))) [.asg 17 (.call .f_law_mul [(.call .f_law_by [(.pu (.var 11)), (.pu (.var 13))]), (.tup [(.pu (.op .sub [(.op .add [(.op (.attr "df") [(.var 10)]), (.op (.attr "rank") [(.var 10)])]), (.var 3)])), (.pu (.op (.attr "df") [(.var 10)]))])]),
    .iff (.cmp .ne (.op .item [(.op (.attr "items") [(.call .f_part [(.pu (.var 12)), (.pu (.cst (.str "adj.r.squared")))])]), (.pu (.cst (.int 0)))]) (.call .f_law_minus [(.tup [(.pu (.cst (.int 1))), (.pu (.cst (.int 1)))]), (.pu (.var 17))])) [.ret (.pu (.cst (.bool false)))] []] [])] []),
    .fgt [18, 19] (.iff (.bop true [(.pu .gt (.op (.attr "rank") [(.var 10)]) (.var 3)), (.pu .gt (.op (.attr "df") [(.var 10)]) (.cst (.int 0))), (.pu .ne (.op .item [(.var 11), (.cst (.int 0))]) (.cst (.int 0)))]) [.asg 18 (.pu (.op .sub [(.op (.attr "rank") [(.var 10)]), (.var 3)])),
    .asg 19 (.call .f_law_by [(.call .f_law_mul [(.call .f_law_minus [(.pu (.var 13)), (.pu (.var 11))]), (.tup [(.pu (.cst (.int 1))), (.pu (.var 18))])]), (.call .f_law_mul [(.pu (.var 11)), (.tup [(.pu (.cst (.int 1))), (.pu (.op (.attr "df") [(.var 10)]))])])]),
    .iff (.cmp .ne (.frz (.lcopy (.ex (.op (.attr "items") [(.call .f_part [(.pu (.var 12)), (.pu (.cst (.str "fstatistic")))])])))) (.frz (.list [(.pu (.var 19)), (.tup [(.pu (.var 18)), (.pu (.cst (.int 1)))]), (.tup [(.pu (.op (.attr "df") [(.var 10)])), (.pu (.cst (.int 1)))])]))) [.ret (.pu (.cst (.bool false)))] []] []),
    .ret (.callr .f_law_factors 1 [])]
noncomputable def n_f_law : Info := ⟨1, [], ["script", "row", "many", "free", "heavy", "columns", "y", "weights", "names", "design", "found", "left", "told", "total", "used", "table", "told_part", "lost", "more_columns", "due", "spot", "spot", "spot", "spot", "spot", "spot"], b_f_law⟩
noncomputable def info : Fn → Option Info
  | .f_get_attr => some n_f_get_attr
  | .f_names_of => some n_f_names_of
  | .f_dim_of => some n_f_dim_of
  | .f_gcd => some n_f_gcd
  | .f_make => some n_f_make
  | .f_is_na => some n_f_is_na
  | .f_is_finite => some n_f_is_finite
  | .f_marked => some n_f_marked
  | .f_neg => some n_f_neg
  | .f_add => some n_f_add
  | .f_sub => some n_f_sub
  | .f_mul => some n_f_mul
  | .f_div => some n_f_div
  | .f_weighted => some n_f_weighted
  | .f_dot => some n_f_dot
  | .f_less_multiple => some n_f_less_multiple
  | .f_check_finite => some n_f_check_finite
  | .f_check_weights => some n_f_check_weights
  | .f_orthogonal => some n_f_orthogonal
  | .f_back_coefficients => some n_f_back_coefficients
  | .f_used_rows => some n_f_used_rows
  | .f_fit => some n_f_fit
  | .f_rss => some n_f_rss
  | .f_inverse_shares => some n_f_inverse_shares
  | .f_unscaled_covariance => some n_f_unscaled_covariance
  | .f_variance => some n_f_variance
  | .f_covariance => some n_f_covariance
  | .f_f_value => some n_f_f_value
  | .iNull => some n_iNull
  | .iVector => some n_iVector
  | .f_null => some n_f_null
  | .f_integer => some n_f_integer
  | .f_double => some n_f_double
  | .f_character => some n_f_character
  | .f_named => some n_f_named
  | .f_list_of => some n_f_list_of
  | .f_length => some n_f_length
  | .f_share => some n_f_share
  | .f_row_count => some n_f_row_count
  | .f_frame_of => some n_f_frame_of
  | .f_frame_row_names => some n_f_frame_row_names
  | .f_factor_levels => some n_f_factor_levels
  | .f_matrix_value => some n_f_matrix_value
  | .f_named_doubles => some n_f_named_doubles
  | .f_part => some n_f_part
  | .iDesign => some n_iDesign
  | .f_fit_design => some n_f_fit_design
  | .f_used_levels => some n_f_used_levels
  | .f_releveled => some n_f_releveled
  | .f_spread_rows => some n_f_spread_rows
  | .f_vcov_matrix => some n_f_vcov_matrix
  | .f_weight_at => some n_f_weight_at
  | .f_model_square => some n_f_model_square
  | .f_coefficient_matrix => some n_f_coefficient_matrix
  | .f_summary_parts => some n_f_summary_parts
  | .iTerms => some n_iTerms
  | .f_law_figures => some n_f_law_figures
  | .f_law_next => some n_f_law_next
  | .f_law_low => some n_f_law_low
  | .f_law_add => some n_f_law_add
  | .f_law_mul => some n_f_law_mul
  | .f_law_by => some n_f_law_by
  | .f_law_minus => some n_f_law_minus
  | .f_law_dot => some n_f_law_dot
  | .f_law_value => some n_f_law_value
  | .f_law_columns => some n_f_law_columns
  | .f_law_square => some n_f_law_square
  | .f_law_releveled => none
  | .f_law_factors => some n_f_law_factors
  | .f_law_covariance => some n_f_law_covariance
  | .f_law => some n_f_law
end Mine.Internal
namespace Mine.Internal
noncomputable def nilOl (t : T) : Bool := (asOl t).any List.isEmpty
noncomputable def fourNil (ts : List T) : Bool := ts.length == 4 && ts.all nilOl
noncomputable def fitT : T := .oinst .fit [("pivots", .olist []), ("bases", .olist []), ("norms", .olist []), ("shares", .olist []), ("steps", .olist []), ("coefficients", .olist []), ("fitted", .olist []), ("residuals", .olist []), ("weights", .frz .none), ("rank", .frz (.int 0)), ("df", .frz (.int 0))]
noncomputable def told : Fl → Option (T × Sg)
  | .ret t _ => some (.frz t.freeze, [])
  | .exc m => some (.frz (.str m), [])
  | .next _ => none
mutual
noncomputable def callN : Nat → Fn → List T → Option (T × Sg)
  | 0, _, _ => none
  | n + 1, f, args => match info f with
    | some I => runF I (callN n) (newN n) args
    | none => (l2 args).bind fun q => (asD q.1).bind fun v => (asD q.2).bind fun known => (frame n_f_releveled [.frz v, .frz known, .frz (.str "g")]).bind fun σ => (xss (callN n) (newN n) n_f_releveled.body σ).bind told
noncomputable def newN : Nat → Cls → List T → Option T
  | 0, _, _ => none
  | n + 1, c, args => match c with
    | .fit => if fourNil args then some fitT else none
    | .null => initN (runF n_iNull (callN n) (newN n) (.oinst .null [] :: args))
    | .vector => initN (runF n_iVector (callN n) (newN n) (.oinst .vector [] :: args))
    | .design => initN (runF n_iDesign (callN n) (newN n) (.oinst .design [] :: args))
    | .terms => initN (runF n_iTerms (callN n) (newN n) (.oinst .terms [] :: args))
end
end Mine.Internal
end
section
open PySem PySem.W
set_option maxRecDepth 10000
namespace Mine.Internal
noncomputable def zOf (f : Fn) : Bool := inout.contains f || !fnGlob f
noncomputable def initOf : Cls → Option (Fn × Info)
  | .null => some (.iNull, n_iNull)
  | .vector => some (.iVector, n_iVector)
  | .design => some (.iDesign, n_iDesign)
  | .terms => some (.iTerms, n_iTerms)
  | .fit => none
structure Fits (cx : Cx) : Prop where
  fit : ∀ f I, info f = some I → FnFit cx (cx.fA f) (zOf f) I
  make : ∀ c, makesIn cx.K (cx.cA c) = true
  init : ∀ c f I, initOf c = some (f, I) → findIn cx.K (.ref (cx.cA c)) "__init__" = some (some (.ref (cx.fA f))) ∧ typeIn cx.K (.ref (cx.fA f)) = some (.type "function")
  shared : ∀ c, AttrOK cx.K (cx.cA c) "shared" = true
theorem ns_empty : NsObj emptyDict (fun _ => none) 0 := ⟨#[], _, rfl, (by intro e he; simp at he), Nat.le_refl _, fun x => by simp [nsFind, findBy]⟩
theorem fresh_base {cx : Cx} {kp : KP} {l : Lg} {h : Heap} (L : Led cx kp l h) : cx.base.get? h.objs.size = none := by
  cases qb : cx.base.get? h.objs.size with
  | none => rfl
  | some ob => exact absurd (Heap.lt_size (L.sub _ _ qb)) (Nat.lt_irrefl _)
theorem Bud.mono {k k' : Nat} {A : Around} (B : Bud k A) (h : k' ≤ k) : Bud k' A :=
  ⟨B.handled, by have := B.depth; lia, by have := B.units; lia, B.frames⟩
section
variable {cx : Cx} {kp : KP} {k : Nat} {A : Around} {X Y Z ST : Lg} {cf : Cf} {cn : Cn}
theorem Bud.under {k : Nat} (B : Bud (k + 1) A) (args : Args) (C : Addr) : Bud k (A.under (.builtin "type.__call__" ⟨.ref C :: args.pos, args.kw⟩)) := by
  obtain ⟨env, l, e1, e2⟩ := B.frames
  have hd : (A.under (.builtin "type.__call__" ⟨.ref C :: args.pos, args.kw⟩)).depth = A.depth + 1 := rfl
  have hu : (A.under (.builtin "type.__call__" ⟨.ref C :: args.pos, args.kw⟩)).units ≤ A.units + 8 := by
    show A.units + (Code.builtin "type.__call__" ⟨.ref C :: args.pos, args.kw⟩).cUnits ≤ _
    have : (Code.builtin "type.__call__" ⟨.ref C :: args.pos, args.kw⟩).cUnits ≤ 8 := by show 1 + 0 ≤ 8; decide
    lia
  have hf : (A.under (.builtin "type.__call__" ⟨.ref C :: args.pos, args.kw⟩)).frames = A.frames := by
    show pushEnvs [] A.frames = A.frames
    rw [e1]; rfl
  exact ⟨B.handled, by rw [hd]; have := B.depth; lia, by have := B.units; lia, env, l, by rw [hf]; exact e1, e2⟩
theorem Stk.under (K : Stk A X) (args : Args) (C : Addr) : Stk (A.under (.builtin "type.__call__" ⟨.ref C :: args.pos, args.kw⟩)) X := by
  obtain ⟨l, e, f⟩ := K.ex
  refine ⟨l, ?_, f⟩
  show pushEnvs [] A.frames = some l
  rw [e]; rfl
theorem new_sound (H : All cx) (F : FnsOK cx) (G : Fits cx) (B : Bud (k + 2) A) (CF : CallOK cx k cf) (CN : NewOK cx k cn) (RS : ∀ A, Bud k A → RaiseOK cx A) {c : Cls} {f : Fn} {I : Info} (hc : initOf c = some (f, I)) (hi : info f = some I)
    {args : List T} {vs : List Value} {o : Lg} {t : T} {s : Shared} {Er Q : Value → Shared → Prop} (L : Led cx kp (o ++ X) s.heap) (w : OwnL cx kp vs args o) (K : Stk A X) (e : initN (runF I cf cn (.oinst c [] :: args)) = some t)
    (q : ∀ v kp' o1 h' tk', Sub kp kp' → Own cx kp' v t o1 → Led cx kp' (o1 ++ X) h' → Q v { s with heap := h', toks := tk' }) : wpAny (model cx.prog cx.w) A (call (.ref (cx.cA c)) vs) Q Er s := by
  have XK := H.ok.inK.keeps L.sub
  obtain ⟨i1, i2⟩ := G.init c f I hc
  refine binv (o := runF I cf cn (.oinst c [] :: args)) e fun w e1 e' => binv (o := asD w.1) e' fun d e2 e' => binv (o := d.none?) e' fun _ e3 e4 => ?_; clear e
  refine binv (o := frame I (.oinst c [] :: args)) e1 fun σ0 e7 e' => binv (o := xss cf cn I.body σ0) e' fun r e5 e6 => ?_
  obtain ⟨tw, σr⟩ := w
  cases asD_inv e2; cases D.none_inv e3
  obtain ⟨hh, g, d, tk, os⟩ := s
  refine wpAny_call (make_core (makes_of XK (G.make c)) (looks_findIn XK i1) (fun self => bind_fn XK self i2) (.inl rfl) ?_)
  have L1 := (L.push (o := emptyDict) rfl).push (o := instObj (cx.cA c) hh.objs.size) rfl
  rw [Heap.size_push] at L1
  have hb : cx.base.get? hh.objs.size = none := fresh_base L
  have w1 : OwnL cx kp (.ref (hh.objs.size + 1) :: vs) (.oinst c [] :: args) ([(hh.objs.size + 1, instObj (cx.cA c) hh.objs.size), (hh.objs.size, emptyDict)] ++ o) := by
    exact ⟨_, _, _, _, rfl, rfl, ⟨hh.objs.size + 1, hh.objs.size, emptyDict, _, [], rfl, rfl, ⟨hb, Nat.zero_le _⟩, rfl, ns_empty, rfl⟩, w⟩
  have hz : zOf f = true := by
    cases c <;> first | exact nos hc | (cases hc; rfl)
  refine fn_sound H F (Bud.under (k := k + 1) B ⟨vs, []⟩ _).weak CF CN RS G.shared (G.fit f I hi) (L1.perm (show ((hh.objs.size + 1, instObj (cx.cA c) hh.objs.size) :: (hh.objs.size, emptyDict) :: (o ++ X)).Perm (([(hh.objs.size + 1, instObj (cx.cA c) hh.objs.size), (hh.objs.size, emptyDict)] ++ o) ++ X) by exact PE.perm [_, _] [_, _] (.c 1 (.c 0 (.p (.a 0) (.a 1)))) (.p (.p (.c 1 (.c 0 .n)) (.a 0)) (.a 1)) rfl)) (Stk.under K ⟨vs, []⟩ _) w1 e7 e5 ?_ ?_
  · intro t1 σ' hr v kp' o1 o0 h' tk' sb w2 hzz L2
    have : t1 = .frz .none ∧ σ' = σr := by
      rcases hr with rfl | ⟨rfl, rfl⟩ <;> cases e6 <;> exact ⟨rfl, rfl⟩
    obtain ⟨rfl, rfl⟩ := this
    obtain ⟨rfl, rfl⟩ := own_frz w2
    obtain ⟨v0, ev, w3⟩ := hzz hz t e4
    cases ev
    exact ⟨rfl, q _ kp' o0 h' tk' sb w3 L2⟩
  · intro m hm
    subst hm; cases e6
noncomputable def FitNew (cx : Cx) (k : Nat) : Prop := ∀ A, Bud k A → ∀ (s : Shared) kp X vs o (Er Q : Value → Shared → Prop), Led cx kp (o ++ X) s.heap → OwnL cx kp vs [.olist [], .olist [], .olist [], .olist []] o → Stk A X →
  (∀ v kp' o1 h' tk', Sub kp kp' → Own cx kp' v fitT o1 → Led cx kp' (o1 ++ X) h' → Q v { s with heap := h', toks := tk' }) →
  wpAny (model cx.prog cx.w) A (call (.ref (cx.cA .fit)) vs) Q Er s
noncomputable def RelCall (cx : Cx) : Prop := ∀ n, CallOK cx (2 * n + 2) (callN n) → NewOK cx (2 * n + 2) (newN n) → ∀ args t σr, callN (n + 1) .f_law_releveled args = some (t, σr) → ∀ A, Bud (2 * n + 4) A → ∀ (s : Shared) kp X vs o (Er Q : Value → Shared → Prop), Led cx kp (o ++ X) s.heap → OwnL cx kp vs args o → Stk A X →
  (∀ v kp' o1 h' tk', Sub kp kp' → Own cx kp' v t o1 → Led cx kp' (o1 ++ X) h' → Q v { s with heap := h', toks := tk' }) →
  wpAny (model cx.prog cx.w) A (call (.ref (cx.fA .f_law_releveled)) vs) Q Er s
theorem nilOl_inv {t : T} (h : nilOl t = true) : t = .olist [] := anyv h fun ts e1 e2 => by rw [asOl_inv e1, List.isEmpty_iff.mp e2]
theorem fourNil_inv {ts : List T} (h : fourNil ts = true) : ts = [.olist [], .olist [], .olist [], .olist []] := by
  have h1 := List.all_eq_true.mp (and2 h)
  have e : ts = List.replicate 4 (.olist []) := List.eq_replicate_iff.mpr ⟨eq_of_beq (and1 h), fun t m => nilOl_inv (h1 t m)⟩
  exact e
theorem all_sound (H : All cx) (F : FnsOK cx) (G : Fits cx) (RS : ∀ k A, Bud (k + 2) A → RaiseOK cx A) (FN : ∀ k, FitNew cx (k + 2)) (RC : RelCall cx) : ∀ n, CallOK cx (2 * n + 2) (callN n) ∧ NewOK cx (2 * n + 2) (newN n)
  | 0 => ⟨fun f args t σr e => nos e, fun c args t e => nos e⟩
  | n + 1 => by
    obtain ⟨CF, CN⟩ := all_sound H F G RS FN RC n
    constructor
    · intro f args t σr e A B s kp X vs o Er Q L w K q
      cases hi : info f with
      | some I =>
        have e0 : runF I (callN n) (newN n) args = some (t, σr) := by
          unfold callN at e; rw [hi] at e; exact e
        refine binv (o := frame I args) e0 fun σ0 e1 e' => binv (o := xss (callN n) (newN n) I.body σ0) e' fun r e2 e3 => ?_
        refine wpAny_call (fn_sound H F (B.mono (show 2 * n + 3 ≤ 2 * (n + 1) + 2 by lia)).weak CF CN (RS _) G.shared (G.fit f I hi) L K w e1 e2 ?_ ?_)
        · intro t1 σ' hr v kp' o1 o0 h' tk' sb w2 hz L2
          have : t1 = t ∧ σ' = σr := by
            rcases hr with rfl | ⟨rfl, rfl⟩ <;> cases e3 <;> exact ⟨rfl, rfl⟩
          obtain ⟨rfl, rfl⟩ := this
          exact q v kp' o1 o0 h' tk' sb w2 (fun hio => hz (by unfold zOf; rw [hio]; rfl)) L2
        · intro m hm
          subst hm; cases e3
      | none =>
        have : f = .f_law_releveled := by cases f <;> first | rfl | cases hi
        subst this
        exact RC n CF CN args t σr e A B s kp X vs o Er Q L w K fun v kp' o1 h' tk' sb w2 L2 => q v kp' o1 [] h' tk' sb w2 (fun hio => by cases hio) L2
    · intro c args t e A B s kp X vs o Er Q L w K q
      have B' : Bud (2 * n + 4) A := B
      cases c with
      | fit =>
        refine ifv (c := fourNil args = true) e fun h4 ee => ?_
        cases ee; cases fourNil_inv h4
        exact FN _ A B' s kp X vs o Er Q L w K q
      | null => exact new_sound (c := .null) H F G B' CF CN (RS _) rfl rfl L w K e q
      | vector => exact new_sound (c := .vector) H F G B' CF CN (RS _) rfl rfl L w K e q
      | design => exact new_sound (c := .design) H F G B' CF CN (RS _) rfl rfl L w K e q
      | terms => exact new_sound (c := .terms) H F G B' CF CN (RS _) rfl rfl L w K e q
end
end Mine.Internal
end
section
open PySem PySem.W
set_option maxRecDepth 10000
namespace Mine.Internal
noncomputable def n_iFit : Info := ⟨5, [], ["self", "pivots", "bases", "norms", "shares"], []⟩
noncomputable def isStep (sc : Sc) (nm : String) (chk : PySem.Expr → Bool) (st : Stmt) : Bool :=
  tst (xAsg st) fun q => tst (xAttr q.1) fun r => r.2.1 == Str.ofString nm && isNam sc 0 r.1 && chk q.2.1
inductive FK where
  | arg (i : Nat)
  | nil
  | none
  | zero
  | len
noncomputable def fchk (sc : Sc) (k : FK) (e : PySem.Expr) : Bool := match k with
  | .arg i => isNam sc i e
  | .nil => tst (xList e) fun q => nil? q.1
  | .none => tst (xConst e) fun q => cstB .none q.1
  | .zero => tst (xConst e) fun q => cstB (.int 0) q.1
  | .len => tst (xCall1 e) fun q => isBi sc q.1 "len" && noStar q.2.1 && isNam sc 1 q.2.1
noncomputable def chkSteps (sc : Sc) : List (String × FK) → List Stmt → Bool
  | [], sts => nil? sts
  | f :: r, sts => match sts with
    | [] => false
    | st :: sts => attrNames.contains f.1 && isStep sc f.1 (fchk sc f.2) st && chkSteps sc r sts
noncomputable def fitSteps : List (String × FK) := [("pivots", .arg 1), ("bases", .arg 2), ("norms", .arg 3), ("shares", .arg 4), ("steps", .nil), ("coefficients", .nil), ("fitted", .nil), ("residuals", .nil), ("weights", .none), ("rank", .len), ("df", .zero)]
noncomputable def chkFit (sc : Sc) : List Stmt → Bool := chkSteps sc fitSteps
noncomputable def fitPs : List Str := ["self", "pivots", "bases", "norms", "shares"].map Str.ofString
structure FitFit (cx : Cx) (a : Addr) : Prop where
  ex : ∃ body scope, FnRec cx a 5 [] body scope fitPs ∧ ScOK scope (scOf scope n_iFit) 5 fitPs ∧ chkFit (scOf scope n_iFit) body = true
  init : findIn cx.K (.ref (cx.cA .fit)) "__init__" = some (some (.ref a)) ∧ typeIn cx.K (.ref a) = some (.type "function")
  attr : ∀ n, n ∈ attrNames → AttrOK cx.K (cx.cA .fit) (Str.ofString n) = true
noncomputable def mset (m : Str → Option Value) (nm : String) (v : Value) : Str → Option Value := fun y => if y = Str.ofString nm then some v else m y
section
variable {cx : Cx} {kp : KP} {k : Nat} {A : Around} {X Y Z ST : Lg} {env : Env} {sc : Sc} {ρ : Nat → Option Value} {cf : Cf} {cn : Cn}
theorem nam_led {i : Nat} {ast : PySem.Expr} {v : Value} {l : Lg} (V : EnvOK A env sc ρ X) (hc : isNam sc i ast = true) (hr : ρ i = some v) {s : Shared} {Er Q : Value → Shared → Prop} (L : Led cx kp (l ++ X) s.heap) (q : Q v s) : wpAny (model cx.prog cx.w) A (eval ast env) Q Er s :=
  nameE (a := ast) hc fun x p h => name_sound L V (badName_of (not_of (and2 h))).1 (badName_of (not_of (and2 h))).2 (eq_of_beq (and1 h)) hr q
theorem cst_none {c : Const} (h : cstB .none c = true) : c = .none := by cases c <;> first | rfl | exact fot h
theorem cst_int {c : Const} {i : Int} (h : cstB (.int i) c = true) : c = .int i := by cases c <;> first | exact fot h | (cases eq_of_beq h; rfl)
noncomputable def Upon (ρ : Nat → Option Value) (Q : Lg → (Str → Option Value) → Nat → Prop) : List (String × FK) → Lg → (Str → Option Value) → Nat → Prop
  | [], W, m, j => Q W m j
  | (nm, k) :: r, W, m, j => match k with
    | .arg i => ∃ v, ρ i = some v ∧ Upon ρ Q r W (mset m nm v) (j + 1)
    | .nil => ∀ a n, Upon ρ Q r ((a, lobj [] n) :: W) (mset m nm (.ref a)) (j + 1)
    | .none => Upon ρ Q r W (mset m nm .none) (j + 1)
    | .zero => ∀ t, Upon ρ Q r W (mset m nm (.int 0 t)) (j + 1)
    | .len => ∃ a n, ρ 1 = some (.ref a) ∧ (a, lobj [] n) ∈ W ∧ ∀ t, Upon ρ Q r W (mset m nm (.int 0 t)) (j + 1)
theorem fit_steps (H : All cx) (V : EnvOK A env sc ρ (ST ++ X)) {C x d : Addr} {s : Shared} {Er : Value → Shared → Prop} {Q : Flow → Shared → Prop} {R : Lg → (Str → Option Value) → Nat → Prop}
    (hr : ρ 0 = some (.ref x)) (hA : ∀ n, n ∈ attrNames → AttrOK cx.K C (Str.ofString n) = true)
    (q : ∀ W m j h od tk, R W m j → Led cx kp ((x, instObj C d) :: (d, od) :: (W ++ (ST ++ X))) h → od.cls = .type "dict" → NsObj od m j → Q .next { s with heap := h, toks := tk }) :
    ∀ (steps : List (String × FK)) (sts : List Stmt) (W : Lg) (m : Str → Option Value) (j : Nat) (h : Heap) (tk : Nat) (od : Obj), chkSteps sc steps sts = true → j + steps.length ≤ 800 → Upon ρ R steps W m j →
      Led cx kp ((x, instObj C d) :: (d, od) :: (W ++ (ST ++ X))) h → od.cls = .type "dict" → NsObj od m j → wpAny (model cx.prog cx.w) A (execs sts env) Q Er { s with heap := h, toks := tk }
  | [], sts, W, m, j, h, tk, od, c, hj, u, L, hc, ns => by
    rw [nil_inv (l := sts) c]
    exact wpAny_execs_nil (q W m j h od tk u L hc ns)
  | (nm, fk) :: r, [], W, m, j, h, tk, od, c, hj, u, L, hc, ns => fot c
  | (nm, fk) :: r, st :: sts, W, m, j, h, tk, od, c, hj, u, L, hc, ns => by
    have hj' : j + 1 + r.length ≤ 800 := by rw [Nat.add_assoc, Nat.add_comm 1]; exact hj
    have jb : j ≤ 900 := Nat.le_trans (Nat.le_add_right j _) (Nat.le_trans hj (Nat.le_of_ble_eq_true rfl))
    refine wpAny_execs_cons (asgE (a := st) (and2 (and1 c)) fun t e pos c1 => attrE (a := t) c1 fun o mm ap c1 => ?_)
    cases eq_of_beq (and1 (and1 c1))
    refine plainObj_wpAny_Assign_Attribute ?_ swaps_attr
    have go : ∀ v W' h0 tk0, Led cx kp ((x, instObj C d) :: (d, od) :: (W' ++ (ST ++ X))) h0 → Upon ρ R r W' (mset m nm v) (j + 1) →
        wpAny (model cx.prog cx.w) A (eval o env) (fun w s' => wpAny (model cx.prog cx.w) A (setAttr w (Str.ofString nm) v) (fun _ s' => wpAny (model cx.prog cx.w) A (execs sts env) Q Er s') Er s') Er { s with heap := h0, toks := tk0 } := fun v W' h0 tk0 L0 u0 => by
      refine nam_led (l := (x, instObj C d) :: (d, od) :: W') V (and2 (and1 c1)) hr L0 ?_
      refine setattr_sound (s := { s with heap := h0, toks := tk0 }) H.ok L0 (hA _ (mem_of (and1 (and1 c)))) (L0.get (.head _) ref_nf) (L0.get (.tail _ (.head _)) (by rw [hc]; exact dct_nf)) ns jb fun h' od' tk hs g3 hc' hns => ?_
      refine fit_steps H V hr hA q r sts W' (mset m nm v) (j + 1) h' tk od' (and2 c) hj' u0 (((L0.perm (List.Perm.swap _ _ _)).set hs g3).perm (List.Perm.swap _ _ _)) (hc'.trans hc) ((hns m j ns).mono ?_)
      cases (m (Str.ofString nm)).isSome
      · exact Nat.le_refl _
      · exact Nat.le_succ _
    have c2 := and2 c1
    cases fk with
    | arg i =>
      obtain ⟨v, hv, u⟩ := u
      exact nam_led (l := (x, instObj C d) :: (d, od) :: W) (s := { s with heap := h, toks := tk }) V c2 hv L (go v W h tk L u)
    | nil =>
      refine listE (a := e) c2 fun es p c3 => ?_
      cases nil_inv (l := es) c3
      refine PyProof.Rows.List_ (Calls.spliced_nil (wpAny_newList (go _ _ _ _ ((L.push (o := lobj [] 0) rfl).perm ?_) (u _ 0)) (by simp)))
      exact (List.Perm.swap _ _ _).trans ((List.Perm.swap _ _ _).cons _)
    | none =>
      refine constE (a := e) c2 fun cc nn p c3 => ?_
      cases cst_none c3
      exact wpAny_pure (go _ W h tk L u)
    | zero =>
      refine constE (a := e) c2 fun cc nn p c3 => ?_
      cases cst_int c3
      exact wpAny_Constant_int (go _ W h _ L (u _))
    | len =>
      obtain ⟨a, n, ha, hm, u⟩ := u
      refine call1E (a := e) c2 fun f y p c3 => ?_
      refine call1_bi (s := { s with heap := h, toks := tk }) H L V (and1 (and1 c3)) (and2 (and1 c3)) (nam_led (l := (x, instObj C d) :: (d, od) :: W) (s := { s with heap := h, toks := tk }) V (and2 c3) ha L ?_)
      have g : h.get? a = some (lobj [] n) := L.get (.tail _ (.tail _ (List.mem_append_left _ hm))) lst_nf
      exact Calls.call_len_list (items := #[]) ⟨_, g, rfl, n, rfl⟩ (by simp) (go _ W h _ L (u _))
end
end Mine.Internal
end
section
open PySem PySem.W
set_option maxRecDepth 10000
namespace Mine.Internal
section
variable {cx : Cx} {kp : KP} {k : Nat} {A : Around} {X Y Z ST : Lg}
theorem own_nil {v : Value} {o : Lg} (w : Own cx kp v (.olist []) o) : ∃ a m, v = .ref a ∧ o = [(a, lobj [] m)] := by
  obtain ⟨a, vs, m, r, rfl, rfl, rfl, rfl⟩ := w
  exact ⟨a, m, rfl, rfl⟩
theorem nil_own {a : Addr} {m : Nat} : Own cx kp (.ref a) (.olist []) [(a, lobj [] m)] := ⟨a, [], m, [], rfl, rfl, rfl, rfl⟩
theorem mset_same {m : Str → Option Value} {nm : String} {v : Value} : mset m nm v (Str.ofString nm) = some v := if_pos rfl
theorem mset_ne {m : Str → Option Value} {nm x : String} {v : Value} {w : Option Value} (h : decide (x = nm) = false) (k : m (Str.ofString x) = w) : mset m nm v (Str.ofString x) = w :=
  (if_neg fun e => of_decide_eq_false h (ofString_inj e)).trans k
noncomputable def FitR (cx : Cx) (kp : KP) (W : Lg) (m : Str → Option Value) (j : Nat) : Prop :=
  ∃ fs r, fitT = .oinst .fit fs ∧ W.Perm r ∧ OwnF cx kp m fs r ∧ j ≤ fs.length
theorem fit_upon {ρ : Nat → Option Value} {a1 a2 a3 a4 : Addr} {m1 m2 m3 m4 : Nat} (r1 : ρ 1 = some (.ref a1)) (r2 : ρ 2 = some (.ref a2)) (r3 : ρ 3 = some (.ref a3)) (r4 : ρ 4 = some (.ref a4)) :
    Upon ρ (FitR cx kp) fitSteps [(a1, lobj [] m1), (a2, lobj [] m2), (a3, lobj [] m3), (a4, lobj [] m4)] (fun _ => none) 0 := by
  refine ⟨_, r1, _, r2, _, r3, _, r4, fun a5 n5 a6 n6 a7 n7 a8 n8 => ⟨a1, m1, r1, .tail _ (.tail _ (.tail _ (.tail _ (.head _)))), fun t10 t11 => ?_⟩⟩
  refine ⟨_, [(a1, lobj [] m1)] ++ ([(a2, lobj [] m2)] ++ ([(a3, lobj [] m3)] ++ ([(a4, lobj [] m4)] ++ ([(a5, lobj [] n5)] ++ ([(a6, lobj [] n6)] ++ ([(a7, lobj [] n7)] ++ ([(a8, lobj [] n8)] ++ []))))))), rfl, ?_, ?_, Nat.le_refl _⟩
  · exact (List.perm_append_comm (l₁ := [(a8, lobj [] n8), (a7, lobj [] n7), (a6, lobj [] n6), (a5, lobj [] n5)]) (l₂ := [(a1, lobj [] m1), (a2, lobj [] m2), (a3, lobj [] m3), (a4, lobj [] m4)])).trans ((List.reverse_perm [(a5, lobj [] n5), (a6, lobj [] n6), (a7, lobj [] n7), (a8, lobj [] n8)]).append_left [(a1, lobj [] m1), (a2, lobj [] m2), (a3, lobj [] m3), (a4, lobj [] m4)])
  · refine ⟨_, _, _, ?_, rfl, nil_own, _, _, _, ?_, rfl, nil_own, _, _, _, ?_, rfl, nil_own, _, _, _, ?_, rfl, nil_own, _, _, _, ?_, rfl, nil_own, _, _, _, ?_, rfl, nil_own, _, _, _, ?_, rfl, nil_own, _, _, _, ?_, rfl, nil_own, .none, [], [], ?_, rfl, of_rep rfl, .int 0 t10, [], [], ?_, rfl, of_rep ⟨_, rfl⟩, .int 0 t11, [], [], ?_, rfl, of_rep ⟨_, rfl⟩, rfl⟩ <;>
      repeat (first | exact mset_same | refine mset_ne rfl ?_)
theorem fit_new (H : All cx) {aI : Addr} (FF : FitFit cx aI) (hm : makesIn cx.K (cx.cA .fit) = true) (k : Nat) : FitNew cx (k + 2) := by
  intro A B s kp X vs o Er Q L w K q
  have XK := H.ok.inK.keeps L.sub
  obtain ⟨body, scope, R1, R2, R3⟩ := FF.ex
  obtain ⟨v1, _, p1, _, rfl, rfl, w1, v2, _, p2, _, rfl, rfl, w2, v3, _, p3, _, rfl, rfl, w3, v4, _, p4, _, rfl, rfl, w4, rfl, rfl⟩ := w
  obtain ⟨a1, m1, rfl, rfl⟩ := own_nil w1
  obtain ⟨a2, m2, rfl, rfl⟩ := own_nil w2
  obtain ⟨a3, m3, rfl, rfl⟩ := own_nil w3
  obtain ⟨a4, m4, rfl, rfl⟩ := own_nil w4
  obtain ⟨hh, g, d, tk, os⟩ := s
  refine wpAny_call (make_core (makes_of XK hm) (looks_findIn XK FF.init.1) (fun self => bind_fn XK self FF.init.2) (.inl rfl) ?_)
  have L1 := (L.push (o := emptyDict) rfl).push (o := instObj (cx.cA .fit) hh.objs.size) rfl
  rw [Heap.size_push] at L1
  have hb : cx.base.get? hh.objs.size = none := fresh_base L
  refine enter (Z := X) H (Bud.under (k := k + 1) B ⟨_, []⟩ _).weak R1 R2 (vs := [.ref (hh.objs.size + 1), .ref a1, .ref a2, .ref a3, .ref a4]) ⟨Nat.le_refl _, Nat.le_refl _⟩ L1 (fun p hp => .tail _ (.tail _ (List.mem_append_right _ hp))) (Stk.under K ⟨_, []⟩ _) fun env ST h0 tk0 dv rd ef hi B' V W L2 => ?_
  cases List.length_eq_zero_iff.mp ((rd (fun _ => none)).length : dv.length = 0)
  refine fit_steps (kp := kp) (d := hh.objs.size) (s := ⟨hh, g, d, tk, os⟩) (R := FitR cx kp) H V rfl FF.attr (fun W m j h od tk u L hc ns => ⟨rfl, ?_⟩) fitSteps body [(a1, lobj [] m1), (a2, lobj [] m2), (a3, lobj [] m3), (a4, lobj [] m4)] (fun _ => none) 0 h0 tk0 emptyDict R3 (Nat.le_of_ble_eq_true rfl) (fit_upon rfl rfl rfl rfl) (L2.perm (by exact PE.perm [_, _] [_, _, _, _, _, _] (.p (.a 0) (.c 5 (.c 4 (.p (.p (.c 0 .n) (.p (.c 1 .n) (.p (.c 2 .n) (.p (.c 3 .n) .n)))) (.a 1))))) (.c 5 (.c 4 (.p (.c 0 (.c 1 (.c 2 (.c 3 .n)))) (.p (.a 0) (.a 1))))) rfl)) rfl ns_empty
  obtain ⟨fs, r, e, pr, wf, hj⟩ := u
  have wo : Own cx kp (.ref (hh.objs.size + 1)) (.oinst .fit fs) ((hh.objs.size + 1, instObj (cx.cA .fit) hh.objs.size) :: (hh.objs.size, od) :: r) := ⟨hh.objs.size + 1, hh.objs.size, od, m, r, rfl, rfl, ⟨hb, by cases e; exact Nat.le_of_ble_eq_true rfl⟩, hc, ns.mono hj, wf⟩
  rw [← e] at wo
  refine q _ kp _ h tk Sub.refl wo (Led.dropR (r := ST) (L.perm ?_))
  refine (((pr.append_right _).cons _).cons _).trans ?_
  exact PE.perm [_, _, _] [_, _] (.c 1 (.c 0 (.p (.a 0) (.p (.a 1) (.a 2))))) (.p (.p (.c 1 (.c 0 (.a 0))) (.a 2)) (.a 1)) rfl
end
end Mine.Internal
end
section
open PySem PySem.W
set_option maxRecDepth 100000
namespace Mine.Internal
abbrev bmB : List Value := [.type "Exception", .type "BaseException", .type "object"]
noncomputable def n_iRef : Info := ⟨2, [], ["self", "message"], []⟩
noncomputable def refPs : List Str := ["self", "message"].map Str.ofString
noncomputable def chkRef (sc : Sc) : List Stmt → Bool := oneB (isStep sc "message" (isNam sc 1))
structure RefOK (cx : Cx) (eI : Addr) : Prop where
  cd : ∃ cd C2, clsIn cx.K cx.eA = some cd ∧ cd.hasDict = true ∧ cd.mro = .ref cx.eA :: .ref C2 :: bmB
  obj : ∃ nm q N bs sub col k0 k1 k2 k3 k5 C2 mN, cx.base.get? cx.eA = some (excClassObj nm q cx.eA N bs (.ref C2 :: bmB) true [] sub false col none k0 k1 k2 k3 k5 "Exception.__new__") ∧ cx.base.Ns N mN ∧ mN "__init__" = some (.ref eI) ∧ OwnTail cx.base bmB (.ref C2 :: bmB)
  setattr : findIn cx.K (.ref cx.eA) "__setattr__" = some (some (.builtin "object.__setattr__"))
  taker : takerIn cx.K cx.eA "message" = some none
  msg : findIn cx.K (.ref cx.eA) "message" = some none
  getattribute : findIn cx.K (.ref cx.eA) "__getattribute__" = some (some (.builtin "BaseException.__getattribute__"))
  getattr : findIn cx.K (.ref cx.eA) "__getattr__" = some none
  init : typeIn cx.K (.ref eI) = some (.type "function")
  name : nsIn cx.K mainGlobals ("Refusal" : Str) = some (some (.ref cx.eA))
  keep : keepIn cx.K (.ref cx.eA) = true
  fn : ∃ body scope, FnRec cx eI 2 [] body scope refPs ∧ ScOK scope (scOf scope n_iRef) 2 refPs ∧ chkRef (scOf scope n_iRef) body = true
section
variable {cx : Cx} {kp : KP} {k : Nat} {A : Around} {X Y Z ST : Lg} {env : Env} {sc : Sc} {ρ : Nat → Option Value} {eI : Addr}
theorem osa_exc (RO : RefOK cx eI) {s : Shared} {e : Addr} {oe : Obj} {tk : Tok} {v : Value} {R : Result → Shared → Prop} (XK : cx.K.In s.heap) (I : PySem.W.InstAt s.heap e oe cx.eA none)
    (h : wpAny (model cx.prog cx.w) A.in1 (Builtin.ObjectAttr.storeInOwnDict (.ref e) (.ref cx.eA) (.str ("message" : Str) tk) ("message" : Str) v false)
      (fun fin s' => match fin with | .done f => R (.ok f) s' | .again c' => c'.quiet = true ∧ codeAny (model cx.prog cx.w) A c' R s') (fun e s' => R (.error e) s') s) :
    codeAny (model cx.prog cx.w) A (.call (.builtin "object.__setattr__") ⟨[.ref e, .str ("message" : Str) tk, v], []⟩) R s := by
  obtain ⟨cd, C2, c1, c2, c3⟩ := RO.cd
  have SF := PySem.F.store_object
  have ne : cd.mro.isEmpty = false := by rw [c3]; rfl
  have sub : Looks (model cx.prog cx.w) s.heap (isInstance (.ref e) (.type "object")) true := I.type.andThen (looks_mroIn XK (by unfold mroIn; rw [c1, Option.bind_some, if_neg (by rw [ne]; decide), c3]; simp))
  refine codeAny_call_builtin SF.slot.plain SF.entry (@check_slot (model cx.prog cx.w) _ _ s "object.__setattr__" "object" "__setattr__" (.ref e) [.str ("message" : Str) tk, v] [] _ SF.kind SF.split sub (SF.args (.ref e) (.str ("message" : Str) tk) v) ?_)
  have hm : Looks (model cx.prog cx.w) s.heap (mroOf (.ref cx.eA)) cd.mro := (looks_clsIn XK c1).andThen .now
  have L3 : Looks (model cx.prog cx.w) s.heap (Builtin.ObjectAttr.storeTaker? none) none := .now
  rw [osa_eq, refuse_eq]
  refine wpAny_bind (wpAny_bind (I.type.here (wpAny_bind (hm.here ?_))))
  rw [c3, refuseLoop_ref, refuseLoop_ref, PySem.F.store_Exception.passes]
  refine wpAny_pure (wpAny_bind (I.type.here (wpAny_bind ((looks_findIn XK RO.msg).here (wpAny_bind (L3.here ?_))))))
  exact h
theorem exc_sets (H : All cx) (RO : RefOK cx eI) {Er : Value → Shared → Prop} {s : Shared} {e : Addr} {oe : Obj} {vs : Array Value} {v : Value} {Q : Unit → Shared → Prop}
    (L : Led cx kp ((e, oe) :: X) s.heap) (hc : oe.cls = .ref cx.eA) (hdt : oe.dict = none) (hd : oe.data = .fields vs)
    (q : ∀ h' tk d od oe' mm j, oe'.cls = .ref cx.eA → oe'.dict = some d → oe'.data = .fields vs → od.cls = .type "dict" → NsObj od mm j → mm "message" = some v → Led cx kp ((e, oe') :: (d, od) :: X) h' → Q () { s with heap := h', toks := tk }) :
    wpAny (model cx.prog cx.w) A (setAttr (.ref e) "message" v) Q Er s := by
  have XK := H.ok.inK.keeps L.sub
  obtain ⟨cd, C2, c1, c2, c3⟩ := RO.cd
  have he : s.heap.get? e = some oe := L.get (.head _) (by rw [hc]; exact ref_nf)
  have I : PySem.W.InstAt s.heap e oe cx.eA none := ⟨he, hc, by unfold notCls; rw [hd], by rw [hdt]; trivial⟩
  refine set_plain XK I RO.setattr ?_
  refine osa_exc (s := { s with toks := s.toks + 1 }) RO XK I ?_
  refine wpAny_bind (wpAny_pure (wpAny_bind (wpAny_bind (wpAny_loadPart he ?_))))
  rw [hc]
  refine wpAny_bind ((looks_clsIn (M := model cx.prog cx.w) XK c1) _ _ _ { s with toks := s.toks + 1 } (fun _ _ e => e) ?_)
  rw [c2]
  obtain ⟨oc, odi, oda, osl⟩ := oe
  dsimp only at hc hdt hd
  subst hc hdt hd
  have L1 := L.push (o := { cls := .type "dict", data := .dict #[] }) rfl
  have L2 := (L1.perm (List.Perm.swap _ _ _)).set (o' := { cls := .ref cx.eA, dict := some s.heap.objs.size, data := .fields vs, slots := osl }) (Heap.SameBut.update _ e (fun o => { o with dict := some s.heap.objs.size })) (Heap.get?_update_self _ ((L1.perm (List.Perm.swap _ _ _)).get (.head _) (by simp)) rfl)
  refine wpAny_bind (wpAny_alloc ?_)
  refine wpAny_bind (wpAny_update (Heap.get?_push_of_some _ he) ?_)
  refine wpAny_pure (a := some s.heap.objs.size) ?_
  show wpAny _ _ (Builtin.ObjectAttr.storeInDict s.heap.objs.size (.str ("message" : Str) s.toks) ("message" : Str) v) _ _ _
  unfold Builtin.ObjectAttr.storeInDict Builtin.ObjectAttr.newKeyGuard
  have hns := ns_empty
  refine wpAny_bind (wpAny_pure (wpAny_bind (nsSet_sound (L2.get (.tail _ (.head _)) (by simp)) hns fun h' od' tk hs g' hcl n' => ?_)))
  obtain ⟨es, ep, n1, n2, n3, n4⟩ := id n'
  refine wpAny_bind (wpAny_lookBehind g' (by rw [n1]; exact pastItsLine_dict (by rw [sizeLine_eq]; simp at n3; lia)) ?_)
  refine wpAny_pure ?_
  refine q h' tk s.heap.objs.size od' _ _ _ rfl rfl rfl (by rw [hcl]) n' (by simp) (((L2.perm (List.Perm.swap _ _ _)).set hs g').perm (List.Perm.swap _ _ _))
end
end Mine.Internal
end
section
open PySem PySem.W
open Sem (wp)
set_option maxRecDepth 100000
namespace Mine.Internal
section
variable {cx : Cx} {kp : KP} {k : Nat} {A : Around} {X Y Z ST : Lg} {env : Env} {sc : Sc} {ρ : Nat → Option Value} {eI : Addr}
theorem exc_init (H : All cx) (RO : RefOK cx eI) (B : Bud (k + 1) A) {s : Shared} {e t0 : Addr} {v : Value} {m : String} {Res : Result → Shared → Prop} (K : Stk A X)
    (L : Led cx kp ((e, { cls := .ref cx.eA, data := .fields #[.ref t0, .none, .none, .none, .bool false, .none] }) :: X) s.heap) (rv : Rep cx kp v (.str m))
    (q : ∀ h' tk ox, ExcAt cx m e false ox → Led cx kp (ox ++ X) h' → Res (.ok (.ret .none)) { s with heap := h', toks := tk }) :
    codeAny (model cx.prog cx.w) A (.call (.ref eI) ⟨[.ref e, v], []⟩) Res s := by
  obtain ⟨body, scope, R1, R2, R3⟩ := RO.fn
  refine enter (Z := X) H B.weak R1 R2 (vs := [.ref e, v]) ⟨Nat.le_refl _, Nat.le_refl _⟩ L (fun p hp => .tail _ hp) K fun env ST h0 tk0 dv rd ef hi B' V W L2 => ?_
  cases List.length_eq_zero_iff.mp ((rd (fun _ => none)).length : dv.length = 0)
  obtain ⟨st, rfl, h⟩ := oneB_inv R3
  have L3 := L2.perm (List.perm_middle (a := (e, ({ cls := .ref cx.eA, data := .fields #[.ref t0, .none, .none, .none, .bool false, .none] } : Obj))))
  refine wpAny_execs_cons (asgE (a := st) h fun t b pos h => attrE (a := t) h fun o mm ap h => ?_)
  cases eq_of_beq (and1 (and1 h))
  refine plainObj_wpAny_Assign_Attribute (nam_led (s := { s with heap := h0, toks := tk0 }) (l := [_]) V (and2 h) rfl L3 (nam_led (s := { s with heap := h0, toks := tk0 }) (l := [_]) V (and2 (and1 h)) rfl L3 ?_)) swaps_attr
  refine exc_sets (s := { s with heap := h0, toks := tk0 }) H RO L3 rfl rfl rfl fun h' tk d od oe' mm j a1 a2 a3 a4 a5 a6 L4 => wpAny_execs_nil ?_
  obtain ⟨tt, rfl⟩ := rv
  exact q h' tk [(e, oe'), (d, od)] ⟨oe', d, od, mm, j, _, a1, a2, a3, Nat.le_of_ble_eq_true rfl, a4, a5, ⟨tt, a6⟩, rfl, rfl⟩ (Led.dropR (r := ST) (L4.perm (by exact PE.perm [_, _] [_, _] (.c 1 (.c 0 (.p (.a 0) (.a 1)))) (.p (.p (.c 1 (.c 0 .n)) (.a 1)) (.a 0)) rfl)))
theorem type_call_own (H : All cx) (RO : RefOK cx eI) {h : Heap} {g : Array GenState} {d : Drawn} {t : Nat} {os : OsState} {v : Value} {E : Value → Shared → Prop} {Q : Fin → Shared → Prop} (L : Led cx kp X h)
    (hq : codeAny (model cx.prog cx.w) A (.call (.ref eI) ⟨[.ref (h.objs.size + 1), v], []⟩) (InitBack (h.objs.size + 1) (fun r s' => match r with | .ok (.ret w) => Q (.done (.ret w)) s' | .ok _ => False | .error e => E e s'))
      ⟨(h.push { cls := .type "tuple", data := .seq #[v] }).push { cls := .ref cx.eA, data := .fields #[.ref h.objs.size, .none, .none, .none, .bool false, .none] }, g, d, t, os⟩) :
    wpAny (model cx.prog cx.w) A (Builtin.«type.__call__» ⟨[.ref cx.eA, v], []⟩) Q E ⟨h, g, d, t, os⟩ := by
  obtain ⟨nm, qq, N, bs, sub, col, k0, k1, k2, k3, k5, C2, mN, hC0, hN0, hni, T0⟩ := RO.obj
  have hC := L.sub _ _ hC0
  have hn := hN0.keeps L.sub
  have T := T0.keeps L.sub
  have F := PySem.F.excBase_Exception
  have hrest : ([v] : List Value).length ≤ sizeLine := by rw [sizeLine_eq]; simp
  repeat (first | with_reducible refine wpAny_loadPart_at hC ?_ | with_reducible refine wpAny_madeBy_exc hC ?_ | wp_step)
  refine codeAny_call_builtin_code (Code.quiet_builtin _ F.quiet) (wpAny_check_new_subU F rfl T hC ?_)
  refine codeAny_exc_new_subU F rfl F T hC ?_ hrest
  show wpAny _ _ _ _ _ _
  have L1 := (L.push (o := { cls := .type "tuple", data := .seq ([v] : List Value).toArray }) rfl).push (o := { cls := .ref cx.eA, data := .fields #[.ref h.objs.size, .none, .none, .none, .bool false, .none] }) rfl
  have hz : (h.push { cls := .type "tuple", data := .seq ([v] : List Value).toArray }).objs.size = h.objs.size + 1 := Heap.size_push ..
  rw [hz] at L1
  have hC₁ := L1.sub _ _ hC0
  have hn₁ := hN0.keeps L1.sub
  have T₁ := T0.keeps L1.sub
  have XK₁ := H.ok.inK.keeps L1.sub
  have hget : ((h.push { cls := .type "tuple", data := .seq ([v] : List Value).toArray }).push { cls := .ref cx.eA, data := .fields #[.ref h.objs.size, .none, .none, .none, .bool false, .none] }).get? (h.objs.size + 1) = some
      { cls := .ref cx.eA, data := .fields #[.ref h.objs.size, .none, .none, .none, .bool false, .none] } := by heap_get
  have hcC : (Value.ref cx.eA :: (Value.ref C2 :: bmB)).contains (.ref cx.eA) = true := by simp
  unfold isInstance
  repeat (first | with_reducible refine wpAny_loadPart_at hget ?_ | (with_reducible refine wpAny_isSubtype_exc hC₁ ?_; rw [hcC]) | wp_step)
  show wpAny _ _ (typeLookup (.ref cx.eA) _) _ _ _
  refine wpAny_typeLookup_tail hC₁ hn₁ T₁ F.mroIs F.init.lookup ?_
  rw [hni]
  refine wpAny_holding (wpAny_bind ((bind_fn (M := model cx.prog cx.w) XK₁ (.ref (h.objs.size + 1)) RO.init) _ _ _ _ (fun _ _ e => e) ?_))
  refine wpAny_bind (wpAny_call (codeAny_mono hq fun r s' z => ?_))
  rcases r with e | (w | _ | _ | _) <;> first | exact z | exact z.elim | skip
  obtain ⟨rfl, z⟩ := z
  refine wpAny_pure ?_
  first
    | exact wpAny_pure (wpAny_pure z)
    | exact wpAny_pure z
    | exact z
theorem exc_new (H : All cx) (RO : RefOK cx eI) (B : Bud (k + 2) A) {s : Shared} {v : Value} {m : String} {Er Q : Value → Shared → Prop} (K : Stk A X) (L : Led cx kp X s.heap) (rv : Rep cx kp v (.str m))
    (q : ∀ e h' tk ox, ExcAt cx m e false ox → Led cx kp (ox ++ X) h' → Q (.ref e) { s with heap := h', toks := tk }) :
    wpAny (model cx.prog cx.w) A (call (.ref cx.eA) [v]) Q Er s := by
  obtain ⟨nm, qq, N, bs, sub, col, k0, k1, k2, k3, k5, C2, mN, hC0, hN0, hni, T0⟩ := RO.obj
  have hC := L.sub _ _ hC0
  obtain ⟨h, g, d, t, os⟩ := s
  dsimp only at hC L
  have f1 := tc_lookup
  have f2 := tc_bind (.ref cx.eA)
  have hT : (⟨h, g, d, t, os⟩ : Shared).TypeIs (.ref cx.eA) "type" := ⟨_, hC, rfl⟩
  refine wpAny_call (codeAny_of_tree ?_)
  show wpAny _ _ (callAny (.ref cx.eA) _) _ _ _
  repeat (any_goals (first | assumption | with_reducible refine wpAny_loadPart_at hC ?_ | wp_step))
  refine ⟨rfl, ?_⟩
  refine codeAny_call_builtin_at (Code.quiet_builtin _ (by decide +kernel)) entry_typeCall (wpAny_check_type_call_sub hC ?_)
  have B2 := Bud.under (k := k + 1) B ⟨[v], []⟩ cx.eA
  have K2 := Stk.under K ⟨[v], []⟩ cx.eA
  refine type_call_own H RO L ?_
  have L1 := (L.push (o := { cls := .type "tuple", data := .seq #[v] }) rfl).push (o := { cls := .ref cx.eA, data := .fields #[.ref h.objs.size, .none, .none, .none, .bool false, .none] }) rfl
  have hz : (h.push { cls := .type "tuple", data := .seq #[v] }).objs.size = h.objs.size + 1 := Heap.size_push ..
  rw [hz] at L1
  have L2 := Led.dropR (l := (h.objs.size + 1, ({ cls := .ref cx.eA, data := .fields #[.ref h.objs.size, .none, .none, .none, .bool false, .none] } : Obj)) :: X) (r := [(h.objs.size, ({ cls := .type "tuple", data := .seq #[v] } : Obj))]) (L1.perm ((List.perm_append_comm (l₁ := [_]) (l₂ := X)).cons _))
  exact exc_init H RO B2 K2 L2 rv fun h' tk ox w L3 => ⟨rfl, q _ h' tk ox w L3⟩
end
end Mine.Internal
end
section
open PySem PySem.W
open Sem (wp)
set_option maxRecDepth 100000
namespace Mine.Internal
section
variable {cx : Cx} {kp : KP} {k : Nat} {A : Around} {X Y Z ST : Lg} {env : Env} {sc : Sc} {ρ : Nat → Option Value} {eI : Addr}
theorem raise_own (RO : RefOK cx eI) {s : Shared} {x : Sem Value} {E : Value → Shared → Prop} {Q : Flow → Shared → Prop} (hh : A.handled = none)
    (h : wpAny (model cx.prog cx.w) A x (fun v s₁ => ∃ e oe vs kp l, v = .ref e ∧ s₁.heap.get? e = some oe ∧ oe.cls = .ref cx.eA ∧ oe.data = .fields vs ∧ vs[1]? = some .none ∧ Led cx kp l s₁.heap ∧ E (.ref e) s₁) E s) :
    wpAny (model cx.prog cx.w) A (raiseStmt env (some x) none) Q E s := by
  obtain ⟨nm, qq, N, bs, sub, col, k0, k1, k2, k3, k5, C2, mN, hC0, hN0, hni, T0⟩ := RO.obj
  have hcB : (Value.ref cx.eA :: (Value.ref C2 :: bmB)).contains (.type "BaseException") = true := by simp [bmB]
  unfold raiseStmt
  refine wpAny_bind (wpAny_mono h (fun v s₁ h₁ => ?_) fun _ _ x => x)
  obtain ⟨e, oe, vs, kp, l, rfl, he, hc, hd, h1, L, hE⟩ := h₁
  have hC := L.sub _ _ hC0
  obtain ⟨hp, g, d, tk, os⟩ := s₁
  dsimp only at he hC
  obtain ⟨oc, odi, oda, osl⟩ := oe
  dsimp only at hc hd
  subst hc hd
  repeat (first | with_reducible refine wpAny_field he rfl h1 ?_ | with_reducible refine wpAny_loadPart_at he ?_ | with_reducible refine wpAny_loadPart_at hC ?_ | (with_reducible refine wpAny_isSubtype_exc hC ?_; rw [hcB]) | wp_step)
  exact wpAny_raiseNew_none hh hE
theorem raise_ok (H : All cx) (RO : RefOK cx eI) (B : Bud (k + 2) A) : RaiseOK cx A := by
  intro n env Γ z a g np cpos pos hk hs h Y Z hZ kp ρ ST σ ob r s Er Q V0 W S e q
  have V := V0.mono (upZ hZ)
  refine binv e fun w e1 e' => binv e' fun m e2 ee => ?_; clear e
  obtain ⟨t, σ1⟩ := w
  cases ee; cases asStr_inv e2
  rw [arm_exec_Raise]
  show wpAny _ A (do standAt pos; raiseStmt env (some (do let v ← eval (.Call (.Name "Refusal" np) [a] [] cpos) env; standAt pos; pure v)) none) Q Er s
  refine wpAny_bind (wpAny_standAt (raise_own RO B.handled (wpAny_bind ?_)))
  refine call_named H S.led V hk (by decide) RO.name RO.keep (by simp only [noStars, hs, Bool.and_true]) ?_
  refine Calls.spliced_cons (h ρ (ST ++ Y) V kp σ ob _ σ1 s Er _ S e1 fun v kp1 ob1 o1 h1 tk1 sb1 w1 S1 => Calls.spliced_nil ⟨H.ok.inK.keeps S1.led.sub, ?_⟩)
  obtain ⟨rfl, rv⟩ := own_frz w1
  refine exc_new (s := { s with heap := h1, toks := tk1 }) H RO B (V.stk.mono (Y := fl n ob1 ++ ([] ++ (ST ++ Y))) fun p hp => List.mem_append_right _ hp) S1.led rv fun e h2 tk2 ox wx L2 => ?_
  refine wpAny_bind (wpAny_standAt (wpAny_pure ?_))
  have wx' := wx
  obtain ⟨oe, d, od, mm, j, vs, a1, a2, a3, a4, a5, a6, a7, b1, rfl⟩ := wx
  exact ⟨e, oe, vs, kp1, _, rfl, L2.get (.head _) (by rw [a1]; simp), a1, a3, b1, L2, q e false kp1 ST _ h2 tk2 sb1 wx' V0.stk (Led.dropR (r := fl n ob1) (L2.perm (by exact PE.perm [_, _, _] [_, _] (.p (.c 1 (.c 0 .n)) (.p (.a 0) (.p .n (.p (.a 1) (.a 2))))) (.p (.p (.c 1 (.c 0 .n)) (.p (.a 1) (.a 2))) (.a 0)) rfl)))⟩
end
end Mine.Internal
end
section
open PySem PySem.W
open Sem (wp)
set_option maxRecDepth 100000
namespace Mine.Internal
section
variable {cx : Cx} {kp : KP} {k : Nat} {A : Around} {X Y Z ST : Lg} {env : Env} {sc : Sc} {ρ : Nat → Option Value} {eI : Addr}
theorem exc_get (H : All cx) (RO : RefOK cx eI) {s : Shared} {e : Addr} {m : String} {b : Bool} {ox : Lg} {Er Q : Value → Shared → Prop} (L : Led cx kp (ox ++ X) s.heap) (w : ExcAt cx m e b ox)
    (q : ∀ t tk, Q (.str (Str.ofString m) t) { s with toks := tk }) : wpAny (model cx.prog cx.w) A (getAttr (.ref e) "message" true) Q Er s := by
  obtain ⟨oe, d, od, mm, j, vs, a1, a2, a3, a4, a5, a6, ⟨tt, a7⟩, a8⟩ := w
  have XK := H.ok.inK.keeps L.sub
  have me : (e, oe) ∈ ox ∧ (d, od) ∈ ox := by
    cases b with
    | false => obtain ⟨_, rfl⟩ := a8; simp
    | true => obtain ⟨T, oT, ts, fl, _, _, _, _, rfl⟩ := a8; simp
  have he : s.heap.get? e = some oe := L.get (List.mem_append_left _ me.1) (by rw [a1]; simp)
  have hd : s.heap.get? d = some od := L.get (List.mem_append_left _ me.2) (by rw [a5]; simp)
  have I : PySem.W.InstAt s.heap e oe cx.eA (some od) := ⟨he, a1, by unfold notCls; rw [a3], by rw [a2]; exact hd⟩
  obtain ⟨cd, C2, c1, c2, c3⟩ := RO.cd
  have fo : findObj cx.K cx.eA (some od) "message" = some (.value (.str (Str.ofString m) tt)) := by
    unfold findObj
    rw [c1, RO.msg]
    simp only [Option.bind_some]
    unfold ownOf
    rw [c2, if_pos rfl]
    dsimp only
    rw [ns_lookIn a6, a7]
    rfl
  have GA := PySem.F.excAttr_ValueError.ga
  have hx2 : (Value.builtin "BaseException.__getattribute__" == Value.builtin "object.__getattribute__") = false := by decide +kernel
  have hx1 : (onTheHeap (Value.ref cx.eA) && Value.builtin "BaseException.__getattribute__" == Value.builtin "object.__getattribute__") = false := by rw [hx2]; rfl
  have hx0 : (true && onTheHeap (Value.builtin "BaseException.__getattribute__")) = false := rfl
  unfold getAttr
  refine wpAny_bind (wpAny_mkText ?_)
  unfold getAttrBy
  refine wpAny_holding (wpAny_bind ((I.type (M := model cx.prog cx.w)) _ _ _ _ (fun _ _ e => e) ?_))
  refine wpAny_bind ((looks_findIn (M := model cx.prog cx.w) XK RO.getattribute) _ _ _ _ (fun _ _ e => e) ?_)
  dsimp only
  rw [hx1, if_neg (by decide)]
  unfold getAttrByItsOwn hookBefore
  rw [if_pos (show onTheHeap (Value.ref cx.eA) = true from rfl)]
  refine wpAny_bind ((looks_findIn (M := model cx.prog cx.w) XK RO.getattr) _ _ _ _ (fun _ _ e => e) ?_)
  refine wpAny_bind (wpAny_attempt (wpAny_holding ?_))
  unfold callGetattribute
  rw [hx0, if_neg (by decide)]
  unfold boundAndCalled
  rw [GA.bind]
  refine wpAny_bind (wpAny_pure (wpAny_call ?_))
  have hk : builtinKind "BaseException.__getattribute__" = some .slot := by decide +kernel
  have hsplit : splitId "BaseException.__getattribute__" = some ("BaseException", "__getattribute__") := by decide +kernel
  have ne : cd.mro.isEmpty = false := by rw [c3]; rfl
  have sub : Looks (model cx.prog cx.w) s.heap (isInstance (.ref e) (.type "BaseException")) true := I.type.andThen (looks_mroIn XK (by unfold mroIn; rw [c1, Option.bind_some, if_neg (by rw [ne]; decide), c3]; simp [bmB]))
  refine codeAny_call_builtin GA.plain F.entry_bexc_ga (@check_slot (model cx.prog cx.w) _ _ _ "BaseException.__getattribute__" "BaseException" "__getattribute__" (.ref e) _ [] _ hk hsplit (by exact sub) (F.args_bexc_ga _ _) ?_)
  have L0 := I.type (M := model cx.prog cx.w)
  have L1 := looks_find (M := model cx.prog cx.w) XK I fo
  refine wpAny_bind (wpAny_pure (wpAny_bind (wpAny_pure (wpAny_bind (L0 _ _ _ _ (fun _ _ e => e) (wpAny_bind (L1 _ _ _ _ (fun _ _ e => e) ?_)))))))
  refine wpAny_pure ?_
  show wpAny _ _ (handedOut _) _ _ _
  exact wpAny_pure (q _ _)
end
end Mine.Internal
end
section
open PySem PySem.W
open Sem (wp)
set_option maxRecDepth 100000
namespace Mine.Internal
noncomputable def n_rel : Info := ⟨2, [], ["v", "levels", "told", "fault"], []⟩
noncomputable def relPs : List Str := ["v", "levels"].map Str.ofString
noncomputable def xTry (a : Stmt) : Option {q : List Stmt × PySem.Expr × Str × List Stmt × Pos × Pos // a = .Try q.1 [.ExceptHandler (some q.2.1) (some q.2.2.1) q.2.2.2.1 q.2.2.2.2.1] [] [] q.2.2.2.2.2} := if h : a.ctorIdx = 17 then PySem.Stmt.Try.elim a h fun b z1 z2 z3 p => (match z1, z2, z3 with
    | [.ExceptHandler (some x) (some nm) hb hp], [], [] => some ⟨(b, x, nm, hb, hp, p), rfl⟩
    | _, _, _ => none) else none
noncomputable def xCall3 (a : PySem.Expr) : Option {q : PySem.Expr × PySem.Expr × PySem.Expr × PySem.Expr × Pos // a = .Call q.1 [q.2.1, q.2.2.1, q.2.2.2.1] [] q.2.2.2.2} := if h : a.ctorIdx = 16 then PySem.Expr.Call.elim a h fun f z1 z2 p => (match z1, z2 with
    | [x, y, z], [] => some ⟨(f, x, y, z, p), rfl⟩
    | _, _ => none) else none
@[elab_as_elim] theorem tryE {P : Stmt → Prop} {a : Stmt} {f : List Stmt × PySem.Expr × Str × List Stmt × Pos × Pos → Bool} (h : tst (xTry a) f = true) (k : ∀ b x nm hb hp p, f (b, x, nm, hb, hp, p) = true → P (.Try b [.ExceptHandler (some x) (some nm) hb hp] [] [] p)) : P a := xE (P := P) h fun q h => k q.1 q.2.1 q.2.2.1 q.2.2.2.1 q.2.2.2.2.1 q.2.2.2.2.2 h
@[elab_as_elim] theorem call3E {P : PySem.Expr → Prop} {a : PySem.Expr} {f : PySem.Expr × PySem.Expr × PySem.Expr × PySem.Expr × Pos → Bool} (h : tst (xCall3 a) f = true) (k : ∀ c x y z p, f (c, x, y, z, p) = true → P (.Call c [x, y, z] [] p)) : P a := xE (P := P) h fun q h => k q.1 q.2.1 q.2.2.1 q.2.2.2.1 q.2.2.2.2 h
noncomputable def isNm (x : String) (e : PySem.Expr) : Bool := tst (xName e) fun q => q.1 == Str.ofString x
@[elab_as_elim] theorem nmE {P : PySem.Expr → Prop} {x : String} {e : PySem.Expr} (h : isNm x e = true) (k : ∀ p, P (.Name (Str.ofString x) p)) : P e := nameE h fun y p h => by cases eq_of_beq h; exact k p
theorem cst_str {c : Const} {i : String} (h : cstB (.str i) c = true) : c = .str (Str.ofString i) := by cases c <;> first | exact fot h | (cases eq_of_beq h; rfl)
noncomputable def chkTold (st : Stmt) : Bool := tst (xAsg st) fun q => isNm "told" q.1 && tst (xCall3 q.2.1) fun r => isNm "releveled" r.1 && isNm "v" r.2.1 && isNm "levels" r.2.2.1 && tst (xConst r.2.2.2.1) fun c => cstB (.str "g") c.1
noncomputable def chkFault (st : Stmt) : Bool := tst (xAsg st) fun q => isNm "told" q.1 && tst (xAttr q.2.1) fun r => r.2.1 == ("message" : Str) && isNm "fault" r.1
noncomputable def chkTry (st : Stmt) : Bool := tst (xTry st) fun r => oneB chkTold r.1 && oneB chkFault r.2.2.2.1 && isNm "Refusal" r.2.1 && r.2.2.1 == ("fault" : Str)
noncomputable def relNames (sc : Sc) : Bool := sc.names.lookup ("releveled" : Str) == some .globalImplicit && sc.names.lookup ("Refusal" : Str) == some .globalImplicit && sc.names.lookup ("told" : Str) == some .local && sc.names.lookup ("fault" : Str) == some .local && sc.vs.lookup ("told" : Str) == some 2 && sc.vs.lookup ("fault" : Str) == some 3
noncomputable def chkRel (sc : Sc) : List Stmt → Bool
  | [] => false
  | s1 :: r => chkTry s1 && oneB (fun s2 => tst (xRet s2) fun u => isNm "told" u.1) r && relNames sc
noncomputable def relBody (p1 p2 p3 p4 p5 p6 p7 p8 p9 p10 p11 p12 p13 p14 p15 p16 : Pos) (n : Nat) : List Stmt :=
  [.Try [.Assign [.Name (Str.ofString "told") p1] (.Call (.Name (Str.ofString "releveled") p2) [.Name (Str.ofString "v") p3, .Name (Str.ofString "levels") p4, .Constant (.str (Str.ofString "g")) n p5] [] p6) p7]
    [.ExceptHandler (some (.Name (Str.ofString "Refusal") p8)) (some ("fault" : Str)) [.Assign [.Name (Str.ofString "told") p9] (.Attribute (.Name (Str.ofString "fault") p10) ("message" : Str) p11) p12] p13] [] [] p14,
   .Return (some (.Name (Str.ofString "told") p15)) p16]
theorem relE {sc : Sc} {body : List Stmt} (h : chkRel sc body = true) : relNames sc = true ∧ ∃ p1 p2 p3 p4 p5 p6 p7 p8 p9 p10 p11 p12 p13 p14 p15 p16 n, body = relBody p1 p2 p3 p4 p5 p6 p7 p8 p9 p10 p11 p12 p13 p14 p15 p16 n := by
  cases body with
  | nil => exact fot h
  | cons s1 r =>
    refine ⟨and2 (a := chkTry s1 && _) h, ?_⟩
    obtain ⟨s2, rfl, h2⟩ := oneB_inv (l := r) (and2 (a := chkTry s1) (and1 h))
    have h1 : chkTry s1 = true := and1 (and1 h)
    refine retE (a := s2) h2 fun u p16 h2 => nmE (e := u) h2 fun p15 => ?_
    refine tryE (a := s1) h1 fun b x nm hb p13 p14 h1 => ?_
    obtain ⟨st, rfl, g1⟩ := oneB_inv (l := b) (and1 (and1 (and1 h1)))
    obtain ⟨sf, rfl, g2⟩ := oneB_inv (l := hb) (and2 (and1 (and1 h1)))
    cases eq_of_beq (and2 h1)
    refine nmE (e := x) (and2 (and1 h1)) fun p8 => ?_
    refine asgE (a := st) g1 fun t v p7 g1 => nmE (e := t) (and1 g1) fun p1 => call3E (a := v) (and2 g1) fun c x y z p6 g1 => ?_
    refine nmE (e := c) (and1 (and1 (and1 g1))) fun p2 => nmE (e := x) (and2 (and1 (and1 g1))) fun p3 => nmE (e := y) (and2 (and1 g1)) fun p4 => constE (a := z) (and2 g1) fun cc n p5 g1 => ?_
    cases cst_str g1
    refine asgE (a := sf) g2 fun t v p12 g2 => nmE (e := t) (and1 g2) fun p9 => attrE (a := v) (and2 g2) fun o m p11 g2 => ?_
    cases eq_of_beq (and1 g2)
    exact nmE (e := o) (and2 g2) fun p10 => ⟨p1, p2, p3, p4, p5, p6, p7, p8, p9, p10, p11, p12, p13, p14, p15, p16, n, rfl⟩
theorem l1_inv {ts : List T} {a : T} (e : l1 ts = some a) : ts = [a] := by
  cases ts with
  | nil => exact nos e
  | cons b ts => cases ts with
    | nil => cases e; rfl
    | cons => exact nos e
theorem l2_inv {ts : List T} {q : T × T} (e : l2 ts = some q) : ts = [q.1, q.2] := by
  cases ts with
  | nil => exact nos e
  | cons b ts => exact binv (o := l1 ts) e fun c e1 ee => by cases ee; rw [l1_inv e1]
noncomputable def RelFit (cx : Cx) : Prop := ∃ body scope, FnRec cx (cx.fA .f_law_releveled) 2 [] body scope relPs ∧ ScOK scope (scOf scope n_rel) 4 relPs ∧ chkRel (scOf scope n_rel) body = true
section
variable {cx : Cx} {kp : KP} {k : Nat} {A : Around} {X Y Z ST : Lg} {env : Env} {sc : Sc} {ρ : Nat → Option Value} {eI : Addr}
theorem store_led {A₂ : Around} {ws : List Str} {x : Str} {i : Nat} {v : Value} {s : Shared} {Er : Value → Shared → Prop} {Q : Unit → Shared → Prop}
    (L : Led cx kp (ST ++ Y) s.heap) (hZ : ∀ p ∈ Z, p ∈ Y) (V : EnvOK A₂ env sc ρ (ST ++ Z)) (W : FrameOK env ws ST) (hx : x ∈ ws) (hi : sc.vs.lookup x = some i) (hinj : ∀ y, sc.vs.lookup y = some i → y = x)
    (q : ∀ ST' h' tk, Led cx kp (ST' ++ Y) h' → EnvOK A₂ env sc (upd ρ i (some v)) (ST' ++ Z) → FrameOK env ws ST' → Q () { s with heap := h', toks := tk }) :
    wpAny (model cx.prog cx.w) A (storeName env x v) Q Er s := by
  refine store_sound (n := 0) (σ := []) (ob := fun _ => []) (kp := kp) (ρ := ρ) (Y := Y) ⟨by simpa [fl] using L, fun j t e => by simp [gv] at e, rfl⟩ hZ V W hx hi hinj fun ST' h' tk S V' W' => ?_
  exact q ST' h' tk (by simpa [fl] using S.led) V' W'
theorem local_ns (V : EnvOK A env sc ρ X) {x : Str} {i : Nat} {v : Value} {l : Lg} {h : Heap} (L : Led cx kp (l ++ X) h) (hk : sc.names.lookup x = some .local) (hi : sc.vs.lookup x = some i) (hr : ρ i = some v) :
    ∃ mm, h.Ns env.locals mm ∧ mm x = some v := by
  rcases V.vars x i v hi hr with ⟨oL, m, j, h1, h2, ⟨es, ep, d, k1, kk, k2⟩, h4⟩ | ⟨c, oc, h1, h2, h3, h4⟩
  · obtain ⟨o', g1, _, g2, _⟩ := L.data (List.mem_append_right _ h2)
    exact ⟨m, ⟨o', es, ep, g1, g2.trans d, k1, k2⟩, h4⟩
  · rw [env_kind V, hk] at h1
    rcases h1 with h1 | h1 <;> cases h1
theorem rel_call (H : All cx) (F : FnsOK cx) (G : Fits cx) (RO : RefOK cx eI) (RS : ∀ k A, Bud (k + 2) A → RaiseOK cx A) (RF : RelFit cx) : RelCall cx := by
  intro n CF CN args t σr e A B s kp X vs o Er Q L w K q
  refine binv (o := l2 args) e fun qq e0 e' => binv (o := asD qq.1) e' fun dv' ea e' => binv (o := asD qq.2) e' fun dk eb e' => binv e' fun σ0 e1 e' => binv e' fun r e2 e3 => ?_; clear e
  have ha : args = [.frz dv', .frz dk] := by rw [l2_inv e0, asD_inv ea, asD_inv eb]
  subst ha
  have w' := w
  obtain ⟨w1, _, p1, _, rfl, rfl, x1, w2, _, p2, _, rfl, rfl, x2, rfl, rfl⟩ := w
  obtain ⟨rfl, r1⟩ := own_frz x1
  obtain ⟨rfl, r2⟩ := own_frz x2
  obtain ⟨body, scope, R1, R2, R3⟩ := RF
  refine wpAny_call (enter (Z := X) H B.weak R1 R2 (vs := [w1, w2]) ⟨Nat.le_refl _, Nat.le_refl _⟩ L (fun p hp => hp) K fun env ST h0 tk0 dv rd ef hi B' V W L2 => ?_)
  cases List.length_eq_zero_iff.mp ((rd (fun _ => none)).length : dv.length = 0)
  have par := R2.par
  have hv : (scOf scope n_rel).vs.lookup (Str.ofString "v") = some 0 := par 0 _ rfl
  have hl : (scOf scope n_rel).vs.lookup (Str.ofString "levels") = some 1 := par 1 _ rfl
  obtain ⟨names, p1, p2, p3, p4, p5, p6, p7, p8, p9, p10, p11, p12, p13, p14, p15, p16, nn, rfl⟩ := relE R3
  have k6 := eq_of_beq (and2 names)
  have names := and1 names
  have k5 := eq_of_beq (and2 names)
  have names := and1 names
  have k4 := eq_of_beq (and2 names)
  have names := and1 names
  have k3 := eq_of_beq (and2 names)
  have k1 := eq_of_beq (and1 (and1 names))
  have k2 := eq_of_beq (and2 (and1 names))
  obtain ⟨l, hfr, _⟩ := K.ex
  have hfr2 : (A.deeper env).frames = some (env :: l) := Around.frames_deeper hfr
  have bk : (env.scope.kind == .class || (env.scope.kind == .module && env.locals != env.globals)) = false := by rw [V.kind]; rfl
  have fin : ∀ (vv : Value) (kp' : KP) (D0 : D) (h : Heap) (tk : Nat) (mm : Str → Option Value) (pos np : Pos), Sub kp kp' → Rep cx kp' vv D0 → t = .frz D0 → h.Ns env.locals mm → mm ("told" : Str) = some vv → Led cx kp' X h →
      wpAny (model cx.prog cx.w) (A.deeper env) (execs [.Return (some (.Name (Str.ofString "told") np)) pos] env) (fun f s' => match (Except.ok (Flow.ret (match f with | .ret v => v | _ => .none)) : Result) with | .ok (.ret v) => Q v s' | .ok _ => False | .error e => Er e s')
        (fun e s' => wpAny (model cx.prog cx.w) (A.deeper env) (leaving env e) (fun _ s'' => Er e s'') (fun e' s'' => Er e' s'') s') { s with heap := h, toks := tk } := by
    intro vv kp' D0 h tk mm pos np sb rv et hn hm L'
    refine wpAny_execs_cons (wpAny_Return_some (wpAny_Name (wpAny_loadName_local V.kind ((env_kind V).trans k3) hn hm ?_) (by decide)))
    subst et
    exact q vv kp' [] h tk sb (of_rep rv) L'
  refine wpAny_execs_cons (wpAny_Try_except ?_)
  have inj : ∀ {x : Str} {i : Nat}, (scOf scope n_rel).vs.lookup x = some i → ∀ y, (scOf scope n_rel).vs.lookup y = some i → y = x := fun hx y hy => R2.inj _ _ _ hx hy
  have win : ∀ {x : Str} {i : Nat}, (scOf scope n_rel).vs.lookup x = some i → x ∈ (scOf scope n_rel).vs.map (·.1) := fun hx => lookup_mem hx
  have L20 : Led cx kp ([] ++ (ST ++ X)) h0 := L2
  have R0 := G.fit .f_releveled n_f_releveled rfl
  refine wpAny_execs_cons (wpAny_Assign_Name ?_ rfl)
  refine call_named (s := { s with heap := h0, toks := tk0 }) H L2 V k1 (by decide) (F.name .f_releveled rfl) (F.keepF .f_releveled rfl) rfl ?_
  refine Calls.spliced_cons (name_sound (s := { s with heap := h0, toks := tk0 }) L20 V (by decide) (by decide) hv rfl (Calls.spliced_cons (name_sound (s := { s with heap := h0, toks := tk0 }) L20 V (by decide) (by decide) hl rfl (Calls.spliced_cons (Calls.Constant_str (Calls.spliced_nil ⟨H.ok.inK.keeps L2.sub, ?_⟩))))))
  have wargs : OwnL cx kp [w1, w2, .str (Str.ofString "g") tk0] [.frz dv', .frz dk, .frz (.str "g")] [] := by
    exact ⟨_, _, [], [], rfl, rfl, of_rep r1, _, _, [], [], rfl, rfl, of_rep r2, _, _, [], [], rfl, rfl, of_rep (⟨_, rfl⟩), rfl, rfl⟩
  refine wpAny_call (fn_sound (k := 2 * n + 2) (X := ST ++ X) (s := { s with heap := h0, toks := tk0 + 1 }) H F B'.weak CF CN (fun A' B'' => RS (2 * n) A' B'') G.shared R0 L20 V.stk wargs e1 e2 ?_ ?_)
  · intro t1 σ' hr v kp' o1 o0 h' tk' sb w2 hz L3
    have : t = .frz t1.freeze := by
      rcases hr with rfl | ⟨rfl, rfl⟩
      · cases e3; rfl
      · exact nos e3
    subst this
    refine store_led (s := { s with heap := h', toks := tk' }) (Y := o1 ++ (o0 ++ X)) (Z := X) (L3.perm (by exact PE.perm [_, _, _, _] [] (.p (.a 0) (.p (.a 1) (.p (.a 2) (.a 3)))) (.p (.a 2) (.p (.a 0) (.p (.a 1) (.a 3)))) rfl)) (fun p hp => List.mem_append_right _ (List.mem_append_right _ hp)) V W (win k5) k5 (inj k5) fun ST4 h4 tk4 L4 V4 W4 => ?_
    refine wpAny_execs_nil (wpAny_execs_nil ?_)
    have L5 : Led cx kp' (o1 ++ (X ++ (ST4 ++ o0))) h4 := L4.perm (by exact PE.perm [_, _, _, _] [] (.p (.a 0) (.p (.a 1) (.p (.a 2) (.a 3)))) (.p (.a 1) (.p (.a 3) (.p (.a 0) (.a 2)))) rfl)
    have ap : ∀ p ∈ o1, kp' p.1 = none := fun p hp => L5.apart p (List.mem_append_left _ hp)
    have nd := L5.nodup
    rw [List.map_append] at nd
    have kk := kadd_new (kp := kp') (List.nodup_append.mp nd).1
    have L6 := (L5.freeze (Own.noFrame w2)).dropR
    obtain ⟨mm, n1, n2⟩ := local_ns (l := []) V4 (L4.perm (show (ST4 ++ (o1 ++ (o0 ++ X))).Perm ((o1 ++ o0) ++ (ST4 ++ X)) by exact PE.perm [_, _, _, _] [] (.p (.a 0) (.p (.a 1) (.p (.a 2) (.a 3)))) (.p (.p (.a 1) (.a 2)) (.p (.a 0) (.a 3))) rfl)).dropL k3 k5 (by unfold upd; rw [if_pos rfl])
    exact fin v _ t1.freeze h4 tk4 mm _ _ (sb.trans (kadd_sub ap)) (Own.freeze (RepLe.of_sub (kadd_sub ap)) w2 kk) rfl n1 n2 L6
  · intro m hm e kp' ox h' tk' sb wx L3
    subst hm; cases e3
    refine exc_note (s := { s with heap := h', toks := tk' }) hfr2 ef V.stk L3 wx fun ox1 h1 wx1 L4 => ?_
    refine exc_flight (s := { s with heap := h1, toks := tk' }) L4 wx1 fun ox2 h2 wx2 L5 => ?_
    refine wpAny_handleBy_cons (codeAny_handlers_test ?_) (by intro q; cases q)
    have V2 : EnvOK ((A.deeper env).mark (some (.ref e))) env (scOf scope n_rel) _ (ST ++ X) := V.rehome ⟨V.stk.ex⟩
    refine glob_sound (s := { s with heap := h2, toks := tk' }) H.ok L5 V2 (by decide) k2 RO.name ?_
    obtain ⟨nm, qq, N, bs, sub, col, k0, k1', k2', k3', k5', C2, mN, hC0, hN0, hni, T0⟩ := RO.obj
    have hC := L5.sub _ _ hC0
    have wx2' := wx2
    obtain ⟨oe, d, od, mm0, j, vs0, a1, a2, a3, a4, a5, a6, a7, T, oT, ts, fl0, b1, b2, b3, b4, rfl⟩ := wx2
    have he : h2.get? e = some oe := L5.get (.head _) (by rw [a1]; exact ref_nf)
    refine wpAny_excMatches_sub_self hC he a1 (by simp) ?_
    dsimp only [if_true]
    refine codeAny_handlers_suite_as ?_
    refine exc_flight (s := { s with heap := h2, toks := tk' }) L5 wx2' fun ox3 h3 wx3 L6 => ?_
    refine store_led (s := { s with heap := h3, toks := tk' }) (kp := kp') (Y := ox3 ++ X) (Z := X) (L6.perm (by exact PE.perm [_, _, _] [] (.p (.a 0) (.p (.a 1) (.a 2))) (.p (.a 1) (.p (.a 0) (.a 2))) rfl)) (fun p hp => List.mem_append_right _ hp) V W (win k6) k6 (inj k6) fun ST4 h4 tk4 L7 V4 W4 => ?_
    have V4' : EnvOK ((A.deeper env).mark (some (.ref e))) env (scOf scope n_rel) _ (ST4 ++ X) := V4.rehome ⟨V4.stk.ex⟩
    have L7' : Led cx kp' (ox3 ++ (ST4 ++ X)) h4 := L7.perm (by exact PE.perm [_, _, _] [] (.p (.a 0) (.p (.a 1) (.a 2))) (.p (.a 1) (.p (.a 0) (.a 2))) rfl)
    refine wpAny_execs_cons (wpAny_Assign_Name (attr_ast rfl (name_sound (s := { s with heap := h4, toks := tk4 }) L7' V4' (by decide) (by decide) k6 (by unfold upd; rw [if_pos rfl]) ?_)) rfl)
    refine exc_get (s := { s with heap := h4, toks := tk4 }) H RO L7' wx3 fun t5 tk5 => ?_
    refine store_led (s := { s with heap := h4, toks := tk5 }) (kp := kp') (Y := ox3 ++ X) (Z := X) L7 (fun p hp => List.mem_append_right _ hp) V4 W4 (win k5) k5 (inj k5) fun ST6 h6 tk6 L8 V6 W6 => ?_
    refine wpAny_execs_nil ?_
    refine wpAny_bind (wpAny_bindName (store_led (s := { s with heap := h6, toks := tk6 }) (kp := kp') (Y := ox3 ++ X) (Z := X) L8 (fun p hp => List.mem_append_right _ hp) V6 W6 (win k6) k6 (inj k6) fun ST7 h7 tk7 L9 V9 W9 => ?_))
    unfold unbindBehindTheSuite
    refine wpAny_onRaise ?_
    have L9' : Led cx kp' (ox3 ++ (ST7 ++ X)) h7 := L9.perm (by exact PE.perm [_, _, _] [] (.p (.a 0) (.p (.a 1) (.a 2))) (.p (.a 1) (.p (.a 0) (.a 2))) rfl)
    obtain ⟨m1, n1, n2⟩ := local_ns V9 L9' k3 k5 (by unfold upd; rw [if_neg (by decide), if_pos rfl])
    obtain ⟨m2, n3, n4⟩ := local_ns V9 L9' k4 k6 (by unfold upd; rw [if_pos rfl])
    refine wpAny_unbindName_local (s := { s with heap := h7, toks := tk7 }) ((env_kind V).trans k4) n3 n4 bk fun h8 u n8 hs8 => ?_
    have mm12 : m1 = m2 := by
      obtain ⟨o1, es1, ep1, g1, d1, _, f1⟩ := n1
      obtain ⟨o2, es2, ep2, g2, d2, _, f2⟩ := n3
      rw [g1] at g2; cases g2
      rw [d1] at d2; cases d2
      exact funext fun x => (f1 x).symm.trans (f2 x)
    subst mm12
    obtain ⟨oL, mL, jL, ml, nl⟩ := W9.loc
    obtain ⟨pre, post, rfl⟩ := List.append_of_mem ml
    have L10 : Led cx kp' ((pre ++ post) ++ (ox3 ++ X)) h8 := Led.cut (a := env.locals) (o := oL) (L9.perm (by exact PE.perm [_, _, _, _] [_] (.p (.p (.a 0) (.c 0 (.a 1))) (.p (.a 2) (.a 3))) (.c 0 (.p (.p (.a 0) (.a 1)) (.p (.a 2) (.a 3)))) rfl)) fun b ob hb e => hs8.extBut b ob hb e
    have rv : Rep cx kp' (.str (Str.ofString m) t5) (.str m) := ⟨_, rfl⟩
    exact fin _ kp' (.str m) h8 tk7 _ _ _ sb rv rfl n8 (by rw [if_neg (by decide)]; exact n2) (Led.dropL (l := (pre ++ post) ++ ox3) (by rw [List.append_assoc]; exact L10))
end
end Mine.Internal
end
section
open PySem PySem.W
set_option maxRecDepth 100000
namespace Mine.Internal
noncomputable def fdAt (K : Frag) (a : Addr) : Option FuncData := match K.lookup a with
  | some o => match o.data with
    | .func fd => some fd
    | _ => none
  | none => none
noncomputable def bodyOf (fd : FuncData) : List Stmt := match fd.body with
  | .stmts b => b
  | _ => []
noncomputable def codeB (K : Frag) (cd : Value) (q : Str) : Bool := match cd with
  | .ref c => match K.lookup c with
    | some o => match o.data with
      | .fields vs => match (vs[1]? : Option Value) with
        | some (.str q' _) => q' == q
        | _ => false
      | _ => false
    | none => false
  | _ => false
noncomputable def recB (K : Frag) (fd : FuncData) : Bool :=
  (match fd.body with | .stmts _ => true | _ => false) && fd.globals == mainGlobals && fd.closure.isEmpty && fd.builtins == builtinsNs && codeB K fd.code fd.qualname &&
  !fd.scope.isCoroutine && !fd.scope.isGenerator && fd.scope.kind == .function
noncomputable def nodupB : List Nat → Bool
  | [] => true
  | x :: l => !(l.contains x) && nodupB l
noncomputable def nodupS : List Str → Bool
  | [] => true
  | x :: l => !(l.contains x) && nodupS l
noncomputable def scB (scope : Scope) (I : Info) (ps : List Str) : Bool :=
  scope.names.all (fun p => p.2 != .free) && nodupS (scope.names.map (·.1)) && nodupB ((slotsOf scope I.names).map (·.2)) && (slotsOf scope I.names).all (fun p => decide (p.2 < I.names.length)) &&
  (List.range ps.length).all (fun i => (slotsOf scope I.names).lookup (ps[i]?.getD "") == some i)
theorem codeB_ok {K : Frag} {h : Heap} {cd : Value} {q : Str} (KX : K.In h) (e : codeB K cd q = true) : h.CodeRec cd q := by
  unfold codeB at e
  split at e
  · rename_i c
    split at e
    · rename_i o ho
      split at e
      · rename_i vs hd
        split at e
        · rename_i q' t hv
          have := beq_iff_eq.mp e
          subst this
          exact ⟨c, o, vs, t, rfl, KX _ _ ho, hd, hv⟩
        · cases e
      · cases e
    · cases e
  · cases e
noncomputable def bindAt (K : Frag) (a : Addr) (S : Setting) (vs : List Value) : Option (List (Str × Value)) := (fdAt K a).bind fun fd => peek K S (bindArgs fd ⟨vs, []⟩)
theorem rec_of {cx : Cx} {a : Addr} {nargs : Nat} {dflt : List D} {fd : FuncData} {ps : List Str} (KX : cx.K.In cx.base) (e : fdAt cx.K a = some fd) (r : recB cx.K fd = true) (hp : ps.length = nargs)
    (hd : ∀ vs : List Value, vs.length ≤ nargs → nargs ≤ vs.length + dflt.length → ∃ dv, (∀ kp, RepL cx kp dv (dflt.drop (vs.length + dflt.length - nargs))) ∧ ∀ S, bindAt cx.K a S vs = some (ps.zip (vs ++ dv))) :
    FnRec cx a nargs dflt (bodyOf fd) fd.scope ps := by
  unfold recB at r
  simp only [Bool.and_eq_true, Bool.not_eq_true', beq_iff_eq] at r
  obtain ⟨⟨⟨⟨⟨⟨⟨r1, r2⟩, r3⟩, r4⟩, r5⟩, r6⟩, r7⟩, r8⟩ := r
  refine ⟨?_, r6, r7, r8, hp⟩
  have e0 := e
  unfold fdAt at e
  split at e
  · rename_i o ho
    split at e
    · rename_i fd' hfd
      cases e
      refine ⟨o, fd, KX _ _ ho, hfd, ?_, rfl, r2, List.isEmpty_iff.mp r3, r4, codeB_ok KX r5, fun vs h1 h2 => ?_⟩
      · unfold bodyOf
        split at r1
        · rename_i b hb; rw [hb]
        · cases r1
      · obtain ⟨dv, d1, d2⟩ := hd vs h1 h2
        refine ⟨dv, d1, fun S => ?_⟩
        have := d2 S
        unfold bindAt at this
        rw [e0] at this
        exact this
    · cases e
  · cases e
theorem lookup_in {α : Type} : ∀ {l : List (Str × α)} {x : Str} {v : α}, l.lookup x = some v → (x, v) ∈ l
  | (y, w) :: l, x, v, e => by
    rw [List.lookup_cons] at e
    split at e
    · rename_i q; cases e; rw [beq_iff_eq.mp q]; exact .head _
    · exact .tail _ (lookup_in e)
theorem nodupS_ok {α : Type} : ∀ {l : List (Str × α)}, nodupS (l.map (·.1)) = true → ∀ x a, (x, a) ∈ l → l.lookup x = some a
  | [], _, x, a, h => by cases h
  | (y, b) :: l, h, x, a, hm => by
    rw [List.map_cons, nodupS] at h
    simp only [Bool.and_eq_true, Bool.not_eq_true'] at h
    rw [List.lookup_cons]
    rcases List.mem_cons.mp hm with h0 | h0
    · cases h0; simp
    · by_cases hxy : x = y
      · subst hxy
        have : x ∈ l.map (·.1) := List.mem_map_of_mem (f := (·.1)) h0
        have h1 := h.1
        rw [List.contains_eq_mem] at h1
        simp at h1
        exact absurd h0 (h1 a)
      · rw [show (x == y) = false by simpa using hxy]
        exact nodupS_ok h.2 x a h0
theorem nodupB_ok : ∀ {l : List (Str × Nat)}, nodupB (l.map (·.2)) = true → ∀ x y i, (x, i) ∈ l → (y, i) ∈ l → y = x
  | [], _, x, y, i, h, _ => by cases h
  | (z, j) :: l, h, x, y, i, h1, h2 => by
    rw [List.map_cons, nodupB] at h
    simp only [Bool.and_eq_true, Bool.not_eq_true'] at h
    have hn : ∀ q, (q, j) ∉ l := by
      intro q hq
      have : j ∈ l.map (·.2) := List.mem_map_of_mem (f := (·.2)) hq
      have h3 := h.1
      rw [List.contains_eq_mem] at h3
      simp at h3
      exact h3 q hq
    rcases List.mem_cons.mp h1 with h1 | h1 <;> rcases List.mem_cons.mp h2 with h2 | h2
    · cases h1; cases h2; rfl
    · cases h1; exact absurd h2 (hn y)
    · cases h2; exact absurd h1 (hn x)
    · exact nodupB_ok h.2 x y i h1 h2
theorem slots_kind {scope : Scope} {names : List String} {x : Str} {i : Nat} (hn : nodupS (scope.names.map (·.1)) = true) (h : (x, i) ∈ slotsOf scope names) : scope.names.lookup x = some .local ∨ scope.names.lookup x = some .cell := by
  unfold slotsOf at h
  rw [List.mem_filterMap] at h
  obtain ⟨⟨y, k⟩, hm, he⟩ := h
  dsimp only at he
  split at he
  · rename_i hk
    rw [Option.map_eq_some_iff] at he
    obtain ⟨j, _, hj⟩ := he
    cases hj
    rw [nodupS_ok hn _ _ hm]
    simp only [Bool.or_eq_true, beq_iff_eq] at hk
    rcases hk with rfl | rfl
    · exact .inl rfl
    · exact .inr rfl
  · cases he
theorem scB_ok {scope : Scope} {I : Info} {ps : List Str} (h : scB scope I ps = true) : ScOK scope (scOf scope I) I.names.length ps ∧ FCOK I.names.length (ctxOf scope I) := by
  unfold scB at h
  simp only [Bool.and_eq_true] at h
  obtain ⟨⟨⟨⟨h1, h2⟩, h3⟩, h4⟩, h5⟩ := h
  have lt : ∀ x i, (slotsOf scope I.names).lookup x = some i → i < I.names.length := by
    intro x i hx
    have := List.all_eq_true.mp h4 _ (lookup_in hx)
    exact of_decide_eq_true this
  refine ⟨⟨rfl, ?_, ?_, ?_, ?_⟩, ⟨?_, ?_⟩⟩
  · intro p hp hf
    have := List.all_eq_true.mp h1 p hp
    rw [hf] at this
    exact absurd this (by decide)
  · intro x i hx
    exact ⟨slots_kind h2 (lookup_in hx), lt x i hx⟩
  · intro x y i hx hy
    exact nodupB_ok h3 x y i (lookup_in hx) (lookup_in hy)
  · intro i x hx
    have hlt : i < ps.length := by
      rw [List.getElem?_eq_some_iff] at hx; exact hx.1
    have := List.all_eq_true.mp h5 i (List.mem_range.mpr hlt)
    rw [hx] at this
    exact beq_iff_eq.mp this
  · intro x i hx
    exact ⟨List.mem_map_of_mem (f := (·.1)) (lookup_in hx), lt x i hx⟩
  · intro x y i hx hy
    exact nodupB_ok h3 x y i (lookup_in hx) (lookup_in hy)
noncomputable def fnB (K : Frag) (a : Addr) (z : Bool) (I : Info) : Bool := match fdAt K a with
  | some fd => recB K fd && scB fd.scope I ((I.names.take I.nargs).map Str.ofString) && chkSs I.names.length (ctxOf fd.scope I) z I.body (bodyOf fd) && decide (I.nargs ≤ I.names.length) && (!z || decide (I.dflt.length < I.nargs))
  | none => false
noncomputable def psOf (I : Info) : List Str := (I.names.take I.nargs).map Str.ofString
noncomputable def BindOK (cx : Cx) (a : Addr) (nargs : Nat) (dflt : List D) (ps : List Str) : Prop :=
  ∀ vs : List Value, vs.length ≤ nargs → nargs ≤ vs.length + dflt.length → ∃ dv, (∀ kp, RepL cx kp dv (dflt.drop (vs.length + dflt.length - nargs))) ∧ ∀ S, bindAt cx.K a S vs = some (ps.zip (vs ++ dv))
theorem fn_fit {cx : Cx} {a : Addr} {z : Bool} {I : Info} (KX : cx.K.In cx.base) (h : fnB cx.K a z I = true) (hb : BindOK cx a I.nargs I.dflt (psOf I)) : FnFit cx a z I := by
  unfold fnB at h
  split at h
  · rename_i fd hfd
    simp only [Bool.and_eq_true, Bool.or_eq_true, Bool.not_eq_true', decide_eq_true_eq] at h
    obtain ⟨⟨⟨⟨h1, h2⟩, h3⟩, h4⟩, h5⟩ := h
    have := scB_ok h2
    refine ⟨⟨bodyOf fd, fd.scope, psOf I, rec_of KX hfd h1 (by simp [psOf]; lia) hb, this.1, this.2, h3⟩, h4, fun hz => ?_⟩
    rcases h5 with h5 | h5
    · rw [hz] at h5; cases h5
    · exact h5
  · cases h
theorem bindn_all {cx : Cx} {a : Addr} {n : Nat} {ps : List Str} (h : ∀ vs : List Value, vs.length = n → ∀ S, bindAt cx.K a S vs = some (ps.zip vs)) : BindOK cx a n [] ps := by
  intro vs h1 h2
  refine ⟨[], fun kp => by simp [RepL], fun S => ?_⟩
  rw [List.append_nil]
  exact h vs (by simp at h2; lia) S
theorem bindn_dflt {cx : Cx} {a : Addr} {n : Nat} {ps : List Str} (h : ∀ vs : List Value, vs.length = n + 1 → ∀ S, bindAt cx.K a S vs = some (ps.zip vs)) (h' : ∀ vs : List Value, vs.length = n → ∀ S, bindAt cx.K a S vs = some (ps.zip (vs ++ [.none]))) : BindOK cx a (n + 1) [.none] ps := by
  intro vs h1 h2
  by_cases q : vs.length = n + 1
  · refine ⟨[], fun kp => ?_, fun S => ?_⟩
    · rw [q, show n + 1 + [D.none].length - (n + 1) = 1 by simp]; simp [RepL]
    · rw [List.append_nil]; exact h vs q S
  · have q' : vs.length = n := by simp at h2; lia
    refine ⟨[.none], fun kp => ?_, h' vs q'⟩
    rw [q', show n + [D.none].length - (n + 1) = 0 by simp]; exact ⟨_, _, rfl, rfl, rfl⟩
end Mine.Internal
end
section
set_option maxRecDepth 10000
set_option genSizeOf false
set_option genInjectivity false
namespace MineP.Internal
open Mine.Internal
abbrev Qo := Option (T × Sg)
structure Fact where
  o : Qo
  r : T × Sg
  h : o = some r
abbrev Tr := List (Option Fact)
abbrev W := Tr × List Qo × List Qo
abbrev M (α : Type) := W → Option (α × W)
section
variable {α β : Type}
noncomputable def M.ok (a : α) : M α := fun w => some (a, w)
noncomputable def M.bind (m : M α) (k : α → M β) : M β := fun w => (m w).bind fun r => k r.1 r.2
noncomputable def lift (o : Option α) : M α := fun w => o.bind fun a => some (a, w)
noncomputable def ask (o : Qo) : M (T × Sg) := fun w => match w.1 with
  | [] => none
  | a :: tr => match a with
    | none => o.bind fun r => some (r, (tr, w.2))
    | some f => some (f.r, (tr, (o :: w.2.1, f.o :: w.2.2)))
noncomputable def Sim (m : M α) (o : Option α) : Prop := ∀ a w w', m w = some (a, w') → w'.2.1 = w'.2.2 → o = some a ∧ w.2.1 = w.2.2
theorem bindv {o : Option α} {f : α → Option β} {b : β} {G : Prop} (e : o.bind f = some b) (k : ∀ a, o = some a → f a = some b → G) : G := by
  cases o with
  | none => cases e
  | some a => exact k a rfl e
theorem Sim.ok (a : α) : Sim (M.ok a) (some a) := fun _ _ _ e g => by cases e; exact ⟨rfl, g⟩
theorem Sim.bind {m : M α} {o : Option α} {k : α → M β} {f : α → Option β} (h : Sim m o) (hk : ∀ a, Sim (k a) (f a)) : Sim (m.bind k) (o.bind f) := fun b w w' e g =>
  bindv (o := m w) e fun r e1 e2 => by
    have h2 := hk r.1 b r.2 w' e2 g
    have h1 := h r.1 w r.2 e1 h2.2
    rw [h1.1]
    exact ⟨h2.1, h1.2⟩
theorem Sim.lift (o : Option α) : Sim (lift o) o := fun _ w _ e g => bindv (o := o) e fun a e1 ee => by cases ee; exact ⟨e1, g⟩
theorem Sim.lb {o : Option α} {k : α → M β} {f : α → Option β} (hk : ∀ a, Sim (k a) (f a)) : Sim ((MineP.Internal.lift o).bind k) (o.bind f) := (Sim.lift o).bind hk
theorem Sim.ask (o : Qo) : Sim (ask o) o := fun a w w' e g => by
  obtain ⟨tr, l, l'⟩ := w
  cases tr with
  | nil => cases e
  | cons x tr => cases x with
    | none => exact bindv (o := o) e fun r e1 ee => by cases ee; exact ⟨e1, g⟩
    | some f =>
      cases e
      have g := List.cons.inj g
      exact ⟨g.1 ▸ f.h, g.2⟩
theorem Sim.ite {c : Prop} [Decidable c] {m m' : M α} {o o' : Option α} (h : Sim m o) (h' : Sim m' o') : Sim (if c then m else m') (if c then o else o') := by
  by_cases q : c
  · rw [if_pos q, if_pos q]; exact h
  · rw [if_neg q, if_neg q]; exact h'
theorem Sim.iteb {c : Prop} [Decidable c] {m : M β} {a : α} {f : α → Option β} (h : Sim m ((if c then some a else none).bind f)) : Sim m (if c then f a else none) := by
  by_cases q : c
  · rw [if_pos q]; rw [if_pos q] at h; exact h
  · rw [if_neg q]; rw [if_neg q] at h; exact h
theorem Sim.code {o : Option α} {en : α → T × Sg} {de : T × Sg → Option α} (h : ∀ a, de (en a) = some a) : Sim ((MineP.Internal.ask (o.map en)).bind fun q => MineP.Internal.lift (de q)) o := fun a w w' e g =>
  bindv (o := MineP.Internal.ask (o.map en) w) e fun r e1 e2 => bindv (o := de r.1) e2 fun x e3 ee => by
    cases ee
    have h1 := Sim.ask _ _ _ _ e1 g
    refine ⟨?_, h1.2⟩
    cases o with
    | none => cases h1.1
    | some y =>
      rw [← Option.some.inj (show some (en y) = some r.1 from h1.1), h] at e3
      exact e3
end
noncomputable def enT (t : T) : T × Sg := (t, [])
noncomputable def enL (l : List D) : T × Sg := (.frz (.list l), [])
noncomputable def enB (q : Bool × Sg) : T × Sg := (.frz (.bool q.1), q.2)
noncomputable def askT (o : Option T) : M T := (ask (o.map enT)).bind fun q => lift (some q.1)
theorem Sim.askT (o : Option T) : Sim (askT o) o := Sim.code fun _ => rfl
noncomputable def askL (o : Option (List D)) : M (List D) := (ask (o.map enL)).bind fun q => lift ((asD q.1).bind D.list?)
theorem Sim.askL (o : Option (List D)) : Sim (askL o) o := Sim.code fun _ => rfl
noncomputable def enF : Fl → T × Sg
  | .next σ => (.olist [], σ)
  | .ret t σ => (.olist [t], σ)
  | .exc m => (.frz (.str m), [])
noncomputable def deF (q : T × Sg) : Option Fl := match asOl q.1 with
  | some l => match l with
    | [] => some (.next q.2)
    | t :: _ => some (.ret t q.2)
  | none => (asStr q.1).bind fun m => some (.exc m)
noncomputable def askS (o : Option Fl) : M Fl := (ask (o.map enF)).bind fun q => lift (deF q)
theorem Sim.askS (o : Option Fl) : Sim (askS o) o := Sim.code fun f => by cases f <;> rfl
noncomputable def askB (o : Option (Bool × Sg)) : M (Bool × Sg) := (ask (o.map enB)).bind fun q => lift ((truthD q.1).bind fun b => some (b, q.2))
theorem Sim.askB (o : Option (Bool × Sg)) : Sim (askB o) o := Sim.code fun _ => rfl
noncomputable def rfz (t : T) : M D := match asD t with
  | some d => .ok d
  | none => (askT (some (.frz t.freeze))).bind fun t => lift (asD t)
theorem Sim.fz {β : Type} {t : T} {k : D → M β} {f : D → Option β} (hk : ∀ d, Sim (k d) (f d)) : Sim ((rfz t).bind k) (f t.freeze) := by
  refine Sim.bind (o := some t.freeze) ?_ hk
  cases t with
  | frz d => exact .ok _
  | _ => exact (Sim.askT (some _)).bind fun t => Sim.lift (asD t)
noncomputable def conc : List T → Bool
  | [] => false
  | t :: _ => match asD t with
    | some d => match d with
      | .tup _ => true
      | .dict _ => true
      | _ => false
    | none => false
noncomputable def isI : List T → Bool
  | [] => false
  | t :: _ => match asD t with
    | some d => match d with
      | .int _ => true
      | _ => false
    | none => false
noncomputable def directQ : Prim → List T → Bool
  | .item, ts => conc ts
  | .mul, _ => false
  | .fdiv, _ => false
  | .mod, _ => false
  | .len, _ => false
  | .index, _ => false
  | .inn, _ => false
  | .nin, _ => false
  | .str, _ => false
  | .lt, _ => false
  | .le, _ => false
  | .gt, _ => false
  | .ge, _ => false
  | .eq, _ => false
  | .ne, _ => false
  | .add, ts => isI ts
  | .sub, _ => true
  | .isn, _ => true
  | .isnt, _ => true
  | .neg, _ => true
  | .attr _, _ => true
  | .abs, _ => true
  | .max, _ => true
  | .isi _, _ => true
  | .isstr, _ => true
  | .get, _ => true
noncomputable def rprim (o : Prim) (ts : List T) : M T := match directQ o ts with
  | true => lift (prim o ts)
  | false => askT (prim o ts)
theorem Sim.prim (o : Prim) (ts : List T) : Sim (rprim o ts) (prim o ts) := by
  unfold rprim
  cases directQ o ts with
  | true => exact Sim.lift _
  | false => exact Sim.askT _
mutual
noncomputable def rP (σ : Sg) : P → M T
  | .cst d => .ok (.frz d)
  | .var i => lift (gv σ i)
  | .glob d => .ok (.frz d)
  | .op o ps => (rPs σ ps).bind (rprim o)
noncomputable def rPs (σ : Sg) : List P → M (List T)
  | [] => .ok []
  | p :: ps => (rP σ p).bind fun t => (rPs σ ps).bind fun ts => .ok (t :: ts)
end
mutual
theorem rP_ok (σ : Sg) : ∀ p : P, Sim (rP σ p) (pv σ p)
  | .cst _ => .ok _
  | .var _ => .lift _
  | .glob _ => .ok _
  | .op o ps => (rPs_ok σ ps).bind (Sim.prim o)
theorem rPs_ok (σ : Sg) : ∀ ps : List P, Sim (rPs σ ps) (pvs σ ps)
  | [] => .ok _
  | p :: ps => (rP_ok σ p).bind fun _ => (rPs_ok σ ps).bind fun _ => .ok _
end
noncomputable def cpyT (l : List D) : Option T := if l.length ≤ 1000 then some (.olist (l.map .frz)) else none
noncomputable def catT (x y : List D) : Option T := if x.length + y.length ≤ 1000 then some (.olist ((x ++ y).map .frz)) else none
noncomputable def repT (x : List D) (k : Int) : Option T := if small k && decide (x.length ≤ 1000) then some (.olist ((repD x k.toNat).map .frz)) else none
noncomputable def slcT (x : List D) (k : Int) : Option T := (idx k).bind fun k => if x.length ≤ 1000 then some (.olist ((x.take k).map .frz)) else none
theorem slc_ok {x : List D} {k : Int} {σ : Sg} : Sim ((askT (slcT x k)).bind fun t => .ok (t, σ)) ((idx k).bind fun k => if x.length ≤ 1000 then some (T.olist ((x.take k).map .frz), σ) else none) := by
  have h := (Sim.askT (slcT x k)).bind (k := fun t => M.ok (t, σ)) (f := fun t => some (t, σ)) fun _ => .ok _
  unfold slcT at h ⊢
  cases q : idx k with
  | none => rw [q] at h; exact h
  | some j => rw [q] at h; exact .iteb (f := fun t => some (t, σ)) h
section
variable (cf : Cf) (cn : Cn)
mutual
noncomputable def rE : E → Sg → M (T × Sg)
  | .pu p, σ => (rP σ p).bind fun t => (lift (asD t)).bind fun d => .ok (.frz d, σ)
  | .var i, σ => (lift (gv σ i)).bind fun t => (rfz t).bind fun d => .ok (.frz d, σ.set i (some (.frz d)))
  | .mov i, σ => (lift (gv σ i)).bind fun t => .ok (t, σ.set i none)
  | .frz e, σ => (rE e σ).bind fun r => (rfz r.1).bind fun d => .ok (.frz d, r.2)
  | .op o es, σ => (rEs es σ).bind fun r => (lift (allD r.1)).bind fun ds => (rprim o (ds.map .frz)).bind fun t => .ok (t, r.2)
  | .bop isAnd es, σ => rB isAnd es σ
  | .ite c a b, σ => (rC c σ).bind fun r => if r.1 then rE a r.2 else rE b r.2
  | .tup es, σ => (rEs es σ).bind fun r => (lift (allD r.1)).bind fun ds => .ok (.frz (.tup ds), r.2)
  | .list es, σ => (rEs es σ).bind fun r => .ok (.olist r.1, r.2)
  | .dict kvs, σ => (rK kvs σ).bind fun r => .ok (.odict r.1, r.2)
  | .idict, σ => .ok (.oidict [], σ)
  | .call f es, σ => (rEs es σ).bind fun r => (askT (val (cf f r.1))).bind fun t => .ok (t, r.2)
  | .callr f i es, σ => (lift (gv σ i)).bind fun t => (rEs es (σ.set i none)).bind fun r => (ask (cf f (t :: r.1))).bind fun q => (lift (gv q.2 0)).bind fun t' => .ok (q.1, r.2.set i (some t'))
  | .new c es, σ => (rEs es σ).bind fun r => (askT (cn c r.1)).bind fun t => .ok (t, r.2)
  | .cat a b, σ => (rE a σ).bind fun r => (rE b r.2).bind fun q => (lift (asL r.1)).bind fun x => (lift (asL q.1)).bind fun y => (askT (catT x y)).bind fun t => .ok (t, q.2)
  | .rep a n, σ => (rE a σ).bind fun r => (rE n r.2).bind fun q => (lift (asL r.1)).bind fun x => (lift (asInt q.1)).bind fun k => (askT (repT x k)).bind fun t => .ok (t, q.2)
  | .slice a hi, σ => (rE a σ).bind fun r => (rE hi r.2).bind fun q => (lift (asSrc r.1)).bind fun x => (lift (asInt q.1)).bind fun k => (askT (slcT x k)).bind fun t => .ok (t, q.2)
  | .lcopy it, σ => (rI it σ).bind fun r => (askT (cpyT r.1)).bind fun t => .ok (t, r.2)
  | .lcopyP p, σ => ask (ev cf cn (.lcopyP p) σ)
  | .dcopy e, σ => (rE e σ).bind fun r => (lift (asD r.1)).bind fun d => (lift d.dict?).bind fun kvs => lift (if kvs.length ≤ 500 then some (.odict (kvs.map fun kv => (kv.1, .frz kv.2)), r.2) else none)
  | .pop i, σ => ask (ev cf cn (.pop i) σ)
  | .comp i it cond elt, σ => ask (ev cf cn (.comp i it cond elt) σ)
  | .fail, _ => lift none
noncomputable def rEs : List E → Sg → M (List T × Sg)
  | [], σ => .ok ([], σ)
  | e :: es, σ => (rE e σ).bind fun r => (rEs es r.2).bind fun q => .ok (r.1 :: q.1, q.2)
noncomputable def rK : List (String × E) → Sg → M (List (String × T) × Sg)
  | [], σ => .ok ([], σ)
  | (n, e) :: es, σ => (rE e σ).bind fun r => (rK es r.2).bind fun q => .ok ((n, r.1) :: q.1, q.2)
noncomputable def rB (isAnd : Bool) : List E → Sg → M (T × Sg)
  | [], _ => lift none
  | e :: es, σ => (rE e σ).bind fun r => (lift (truthD r.1)).bind fun b => if es.isEmpty then .ok (.frz (.bool b), r.2) else if b = isAnd then rB isAnd es r.2 else .ok (.frz (.bool b), r.2)
noncomputable def rC : C → Sg → M (Bool × Sg)
  | .e e, σ => (rE e σ).bind fun r => (lift (truthD r.1)).bind fun b => .ok (b, r.2)
  | .not c, σ => (rC c σ).bind fun r => .ok (!r.1, r.2)
  | .bop isAnd cs, σ => rCs isAnd cs σ
  | .cmp o a b, σ => (rE a σ).bind fun r => (rE b r.2).bind fun q => (rprim o [r.1, q.1]).bind fun t => (lift (truthD t)).bind fun x => .ok (x, q.2)
  | .pu o p q, σ => (rP σ p).bind fun t => (rP σ q).bind fun u => (rprim o [t, u]).bind fun r => (lift (truthD r)).bind fun x => .ok (x, σ)
  | .nonempty i, σ => askB (ec cf cn (.nonempty i) σ)
noncomputable def rCs (isAnd : Bool) : List C → Sg → M (Bool × Sg)
  | [], σ => .ok (isAnd, σ)
  | c :: cs, σ => (rC c σ).bind fun r => if r.1 = isAnd then rCs isAnd cs r.2 else .ok (r.1, r.2)
noncomputable def rI : It → Sg → M (List D × Sg)
  | .ex e, σ => (rE e σ).bind fun r => (lift (asList r.1)).bind fun l => .ok (l, r.2)
  | .range es, σ => (rEs es σ).bind fun r => (askL (rangeItems r.1)).bind fun l => .ok (l, r.2)
end
mutual
theorem rE_ok : ∀ (e : E) (σ : Sg), Sim (rE cf cn e σ) (ev cf cn e σ)
  | .pu p, σ => (rP_ok σ p).bind fun _ => .lb fun _ => .ok _
  | .var i, σ => .lb fun t => .fz (f := fun d => some (T.frz d, σ.set i (some (.frz d)))) fun _ => .ok _
  | .mov i, σ => .lb fun _ => .ok _
  | .frz e, σ => (rE_ok e σ).bind fun r => .fz (f := fun d => some (T.frz d, r.2)) fun _ => .ok _
  | .op o es, σ => (rEs_ok es σ).bind fun _ => .lb fun _ => (Sim.prim o _).bind fun _ => .ok _
  | .bop isAnd es, σ => rB_ok isAnd es σ
  | .ite c a b, σ => (rC_ok c σ).bind fun _ => .ite (rE_ok a _) (rE_ok b _)
  | .tup es, σ => (rEs_ok es σ).bind fun _ => .lb fun _ => .ok _
  | .list es, σ => (rEs_ok es σ).bind fun _ => .ok _
  | .dict kvs, σ => (rK_ok kvs σ).bind fun _ => .ok _
  | .idict, σ => .ok _
  | .call f es, σ => (rEs_ok es σ).bind fun _ => (Sim.askT _).bind fun _ => .ok _
  | .callr f i es, σ => .lb fun _ => (rEs_ok es _).bind fun _ => (Sim.ask _).bind fun _ => .lb fun _ => .ok _
  | .new c es, σ => (rEs_ok es σ).bind fun _ => (Sim.askT _).bind fun _ => .ok _
  | .cat a b, σ => (rE_ok a σ).bind fun _ => (rE_ok b _).bind fun q => .lb fun x => .lb fun y => .iteb (f := fun t => some (t, q.2)) ((Sim.askT (catT x y)).bind fun _ => .ok _)
  | .rep a n, σ => (rE_ok a σ).bind fun _ => (rE_ok n _).bind fun q => .lb fun x => .lb fun k => .iteb (f := fun t => some (t, q.2)) ((Sim.askT (repT x k)).bind fun _ => .ok _)
  | .slice a hi, σ => (rE_ok a σ).bind fun _ => (rE_ok hi _).bind fun q => .lb fun x => .lb fun k => slc_ok
  | .lcopy it, σ => (rI_ok it σ).bind fun r => .iteb (f := fun t => some (t, r.2)) ((Sim.askT (cpyT r.1)).bind fun _ => .ok _)
  | .lcopyP p, σ => .ask _
  | .dcopy e, σ => (rE_ok e σ).bind fun _ => .lb fun _ => .lb fun _ => .lift _
  | .pop i, σ => .ask _
  | .comp i it cond elt, σ => .ask _
  | .fail, _ => .lift _
theorem rEs_ok : ∀ (es : List E) (σ : Sg), Sim (rEs cf cn es σ) (evs cf cn es σ)
  | [], σ => .ok _
  | e :: es, σ => (rE_ok e σ).bind fun _ => (rEs_ok es _).bind fun _ => .ok _
theorem rK_ok : ∀ (es : List (String × E)) (σ : Sg), Sim (rK cf cn es σ) (evk cf cn es σ)
  | [], σ => .ok _
  | (n, e) :: es, σ => (rE_ok e σ).bind fun _ => (rK_ok es _).bind fun _ => .ok _
theorem rB_ok (isAnd : Bool) : ∀ (es : List E) (σ : Sg), Sim (rB cf cn isAnd es σ) (evb cf cn isAnd es σ)
  | [], _ => .lift _
  | e :: es, σ => (rE_ok e σ).bind fun _ => .lb fun _ => .ite (.ok _) (.ite (rB_ok isAnd es _) (.ok _))
theorem rC_ok : ∀ (c : C) (σ : Sg), Sim (rC cf cn c σ) (ec cf cn c σ)
  | .e e, σ => (rE_ok e σ).bind fun _ => .lb fun _ => .ok _
  | .not c, σ => (rC_ok c σ).bind fun _ => .ok _
  | .bop isAnd cs, σ => rCs_ok isAnd cs σ
  | .cmp o a b, σ => (rE_ok a σ).bind fun _ => (rE_ok b _).bind fun _ => (Sim.prim o _).bind fun _ => .lb fun _ => .ok _
  | .pu o p q, σ => (rP_ok σ p).bind fun _ => (rP_ok σ q).bind fun _ => (Sim.prim o _).bind fun _ => .lb fun _ => .ok _
  | .nonempty i, σ => .askB _
theorem rCs_ok (isAnd : Bool) : ∀ (cs : List C) (σ : Sg), Sim (rCs cf cn isAnd cs σ) (ecb cf cn isAnd cs σ)
  | [], σ => .ok _
  | c :: cs, σ => (rC_ok c σ).bind fun _ => .ite (rCs_ok isAnd cs _) (.ok _)
theorem rI_ok : ∀ (it : It) (σ : Sg), Sim (rI cf cn it σ) (evi cf cn it σ)
  | .ex e, σ => show Sim ((rE cf cn e σ).bind fun r => (lift (asList r.1)).bind fun l => .ok (l, r.2)) ((ev cf cn e σ).bind fun r => (asList r.1).bind fun l => some (l, r.2)) from (rE_ok e σ).bind fun _ => .lb fun _ => .ok _
  | .range es, σ => show Sim ((rEs cf cn es σ).bind fun r => (askL (rangeItems r.1)).bind fun l => .ok (l, r.2)) ((evs cf cn es σ).bind fun r => (rangeItems r.1).bind fun l => some (l, r.2)) from (rEs_ok es σ).bind fun _ => (Sim.askL _).bind fun _ => .ok _
end
end
end MineP.Internal
end
section
set_option maxRecDepth 10000
namespace MineP.Internal
open Mine.Internal
section
variable (cf : Cf) (cn : Cn)
noncomputable def rStore (σ : Sg) (last : St) (v t : T) : M T := match last with
  | .attr n => lift (store σ (.attr n) v t)
  | .item p => (rP σ p).bind fun k => askT (storeI v k t)
noncomputable def rU (σ : Sg) (last : St) (v : T) : List St → T → M T
  | [], t => rStore σ last v t
  | st :: p, t => match st with
    | .attr n => (lift (asOi t)).bind fun q => (lift (q.2.lookup n)).bind fun x => (rU σ last v p x).bind fun y => .ok (.oinst q.1 (setL n y q.2))
    | .item a => askT (updP σ (.item a :: p) (store σ last v) t)
theorem rStore_ok (σ : Sg) (last : St) (v t : T) : Sim (rStore σ last v t) (store σ last v t) := by
  cases last with
  | attr n => exact .lift _
  | item p => exact show Sim ((rP σ p).bind fun k => askT (storeI v k t)) ((pv σ p).bind fun k => storeI v k t) from (rP_ok σ p).bind fun _ => .askT _
theorem rU_ok (σ : Sg) (last : St) (v : T) : ∀ (p : List St) (t : T), Sim (rU σ last v p t) (updP σ p (store σ last v) t)
  | [], t => rStore_ok σ last v t
  | st :: p, t => by
    cases st with
    | attr n => exact show Sim ((lift (asOi t)).bind fun q => (lift (q.2.lookup n)).bind fun x => (rU σ last v p x).bind fun y => .ok (T.oinst q.1 (setL n y q.2))) ((asOi t).bind fun q => (q.2.lookup n).bind fun x => (updP σ p (store σ last v) x).bind fun y => some (T.oinst q.1 (setL n y q.2))) from .lb fun q => .lb fun x => (rU_ok σ last v p x).bind fun _ => .ok _
    | item a => exact .askT _
noncomputable def rA (n : String) (v t : T) : M T := (lift (asOi t)).bind fun q => (lift (q.2.lookup n)).bind fun x => (askT (appendT v x)).bind fun y => .ok (.oinst q.1 (setL n y q.2))
theorem rA_ok (σ : Sg) (n : String) (v t : T) : Sim (rA n v t) (upd1 σ (.attr n) (appendT v) t) := .lb fun q => .lb fun x => (Sim.askT _).bind fun _ => .ok _
mutual
noncomputable def rS : S → Sg → M Fl
  | .asg i e, σ => (rE cf cn e σ).bind fun r => .ok (.next (r.2.set i (some r.1)))
  | .set i path last e, σ => (rE cf cn e σ).bind fun r => (lift (gv r.2 i)).bind fun t => (rU r.2 last r.1 path t).bind fun t' => .ok (.next (r.2.set i (some t')))
  | .app i e, σ => (lift (isOl (gv σ i))).bind fun _ => (rE cf cn e σ).bind fun r => (lift (gv r.2 i)).bind fun t => (askT (appendT r.1 t)).bind fun t' => .ok (.next (r.2.set i (some t')))
  | .appA i n e, σ => (lift (gv σ i)).bind fun t => (rE cf cn e (σ.set i none)).bind fun r => (rA n r.1 t).bind fun t' => .ok (.next (r.2.set i (some t')))
  | .iff c a b, σ => (rC cf cn c σ).bind fun r => if r.1 then rSs a r.2 else rSs b r.2
  | .ret e, σ => (rE cf cn e σ).bind fun r => .ok (.ret r.1 r.2)
  | .ex e, σ => (rE cf cn e σ).bind fun r => (lift (asD r.1)).bind fun d => (lift d.none?).bind fun _ => .ok (.next r.2)
  | .raise e, σ => (rE cf cn e σ).bind fun r => (lift (asStr r.1)).bind fun m => .ok (.exc m)
  | .fgt fg s, σ => (rS s σ).bind fun r => .ok (fgtF fg r)
  | s, σ => askS (xs cf cn s σ)
noncomputable def rSs : List S → Sg → M Fl
  | [], σ => .ok (.next σ)
  | s :: r, σ => (rS s σ).bind fun q => match q with
    | .next σ => rSs r σ
    | .ret t σ => .ok (.ret t σ)
    | .exc m => .ok (.exc m)
end
mutual
theorem rS_ok : ∀ (s : S) (σ : Sg), Sim (rS cf cn s σ) (xs cf cn s σ)
  | .asg i e, σ => (rE_ok cf cn e σ).bind fun _ => .ok _
  | .set i path last e, σ => (rE_ok cf cn e σ).bind fun _ => .lb fun t => (rU_ok _ last _ path t).bind fun _ => .ok _
  | .app i e, σ => .lb fun _ => (rE_ok cf cn e σ).bind fun _ => .lb fun _ => (Sim.askT _).bind fun _ => .ok _
  | .appA i n e, σ => .lb fun _ => (rE_ok cf cn e _).bind fun r => (rA_ok r.2 n r.1 _).bind fun _ => .ok _
  | .iff c a b, σ => (rC_ok cf cn c σ).bind fun _ => .ite (rSs_ok a _) (rSs_ok b _)
  | .ret e, σ => (rE_ok cf cn e σ).bind fun _ => .ok _
  | .ex e, σ => (rE_ok cf cn e σ).bind fun _ => .lb fun _ => .lb fun _ => .ok _
  | .raise e, σ => (rE_ok cf cn e σ).bind fun _ => .lb fun _ => .ok _
  | .fgt fg s, σ => (rS_ok s σ).bind fun _ => .ok _
  | .setany i n x, σ => .askS _
  | .ext i x, σ => .askS _
  | .rev i, σ => .askS _
  | .loop i it b, σ => .askS _
  | .euclid x y, σ => .askS _
  | .fail, σ => .askS _
theorem rSs_ok : ∀ (ss : List S) (σ : Sg), Sim (rSs cf cn ss σ) (xss cf cn ss σ)
  | [], σ => .ok _
  | s :: ss, σ => (rS_ok s σ).bind fun f => by
    cases f with
    | next σ1 => exact rSs_ok ss σ1
    | ret t σ1 => exact .ok _
    | exc m => exact .ok _
end
noncomputable def fnR (r : Fl) : Option (T × Sg) := match r with
    | .next σ => some (.frz .none, σ)
    | .ret t σ => some (t, σ)
    | .exc _ => none
noncomputable def rFn (I : Info) (args : List T) : M (T × Sg) := (lift (frame I args)).bind fun σ => (rSs cf cn I.body σ).bind fun r => lift (fnR r)
theorem rFn_ok (I : Info) (args : List T) : Sim (rFn cf cn I args) (runF I cf cn args) := .lb fun σ => (rSs_ok cf cn I.body σ).bind fun r => by
  cases r with
  | next σ => exact .lift _
  | ret t σ => exact .lift _
  | exc m => exact .lift _
end
section
variable {α : Type}
noncomputable def told' (m : M α) (fs : Tr) : List Qo := match m (fs, [], []) with
  | none => []
  | some q => q.2.2.2
noncomputable def obs {β : Type} (p : α → β) (m : M α) (fs : Tr) : Option (β × List Qo) := match m (fs, [], []) with
  | none => none
  | some q => some (p q.1, q.2.2.1)
theorem Sim.obs {β : Type} {p : α → β} {m : M α} {o : Option α} (s : Sim m o) {fs : Tr} {b : β} (e : obs p m fs = some (b, told' m fs)) : ∃ a, o = some a ∧ p a = b := by
  unfold MineP.Internal.obs told' at e
  cases h : m (fs, [], []) with
  | none => rw [h] at e; cases e
  | some q =>
    rw [h] at e
    have e := Prod.mk.inj (Option.some.inj e)
    exact ⟨q.1, (s q.1 _ q.2 h e.2).1, e.1⟩
theorem Sim.run {m : M α} {o : Option α} (s : Sim m o) (fs : Tr) {a : α} (e : MineP.Internal.obs id m fs = some (a, told' m fs)) : o = some a := by
  obtain ⟨b, h1, h2⟩ := s.obs e
  rw [h1]; exact congrArg some h2
theorem run_ss {cf : Cf} {cn : Cn} {ss : List S} {σ : Sg} {f : Fl} (fs : Tr) (e : obs id (rSs cf cn ss σ) fs = some (f, told' (rSs cf cn ss σ) fs) := by kernel_rfl) : xss cf cn ss σ = some f := (rSs_ok cf cn ss σ).run fs e
theorem run_s {cf : Cf} {cn : Cn} {ss : S} {σ : Sg} {f : Fl} (fs : Tr) (e : obs id (rS cf cn ss σ) fs = some (f, told' (rS cf cn ss σ) fs) := by kernel_rfl) : xs cf cn ss σ = some f := (rS_ok cf cn ss σ).run fs e
theorem run_e {cf : Cf} {cn : Cn} {x : E} {σ : Sg} {f : T × Sg} (fs : Tr) (e : obs id (rE cf cn x σ) fs = some (f, told' (rE cf cn x σ) fs) := by kernel_rfl) : ev cf cn x σ = some f := (rE_ok cf cn x σ).run fs e
theorem run_c {cf : Cf} {cn : Cn} {x : C} {σ : Sg} {f : Bool × Sg} (fs : Tr) (e : obs id (rC cf cn x σ) fs = some (f, told' (rC cf cn x σ) fs) := by kernel_rfl) : ec cf cn x σ = some f := (rC_ok cf cn x σ).run fs e
theorem run_i {cf : Cf} {cn : Cn} {x : It} {σ : Sg} {f : List D × Sg} (fs : Tr) (e : obs id (rI cf cn x σ) fs = some (f, told' (rI cf cn x σ) fs) := by kernel_rfl) : evi cf cn x σ = some f := (rI_ok cf cn x σ).run fs e
end
theorem map_some {α β : Type} {o : Option α} {a : α} (f : α → β) (h : o = some a) : o.map f = some (f a) := by rw [h]; rfl
noncomputable def tF {o : Option T} {t : T} (h : o = some t) : Option Fact := some ⟨o.map enT, enT t, map_some enT h⟩
noncomputable def lF {o : Option (List D)} {t : List D} (h : o = some t) : Option Fact := some ⟨o.map enL, enL t, map_some enL h⟩
noncomputable def sF {o : Option Fl} {t : Fl} (h : o = some t) : Option Fact := some ⟨o.map enF, enF t, map_some enF h⟩
noncomputable def bF {o : Option (Bool × Sg)} {t : Bool × Sg} (h : o = some t) : Option Fact := some ⟨o.map enB, enB t, map_some enB h⟩
noncomputable def qF {o : Qo} {r : T × Sg} (h : o = some r) : Option Fact := some ⟨o, r, h⟩
noncomputable def zF {t : T} {d : D} (h : t.freeze = d) : Option Fact := tF (o := some (.frz t.freeze)) (t := .frz d) (by rw [h])
noncomputable def Rets (c : Nat) (f : Fn) (args : List T) (t : T) : Prop := ∀ n, c ≤ n → val (callN n f args) = some t
theorem callN_info {n : Nat} {f : Fn} {I : Info} {args : List T} (hi : info f = some I) : callN (n + 1) f args = runF I (callN n) (newN n) args := by
  rw [callN.eq_def]; simp only [hi]
theorem rets {c : Nat} {f : Fn} {I : Info} {args : List T} {t : T} (hi : info f = some I) (fs : ∀ n, c ≤ n → Tr)
    (e : ∀ n (hn : c ≤ n), obs Prod.fst (rFn (callN n) (newN n) I args) (fs n hn) = some (t, told' (rFn (callN n) (newN n) I args) (fs n hn)) := by intro n hn; kernel_rfl) : Rets (c + 1) f args t := by
  intro n hn
  obtain ⟨m, rfl⟩ : ∃ m, n = m + 1 := ⟨n - 1, by lia⟩
  obtain ⟨a, h1, h2⟩ := (rFn_ok (callN m) (newN m) I args).obs (e m (by lia))
  rw [callN_info hi, h1]
  exact congrArg some h2
theorem Rets.lo {c d n : Nat} {f : Fn} {args : List T} {t : T} (h : Rets c f args t) (hn : d ≤ n) (e : Nat.ble c d = true) : val (callN n f args) = some t := h n (Nat.le_trans (Nat.le_of_ble_eq_true e) hn)
theorem Rets.mono {c d : Nat} {f : Fn} {args : List T} {t : T} (h : Rets c f args t) (hn : c ≤ d) : Rets d f args t := fun n hd => h n (Nat.le_trans hn hd)
noncomputable def cF {c d n : Nat} {f : Fn} {args : List T} {t : T} (hn : d ≤ n) (h : Rets c f args t) (e : Nat.ble c d = true) : Option Fact := tF (h.lo hn e)
noncomputable def flT : Fl → Option T
  | .next _ => some (.frz .none)
  | .ret t _ => some t
  | .exc _ => none
theorem rets_x {c : Nat} {f : Fn} {I : Info} {args : List T} {t : T} {σ : Sg} (hi : info f = some I) (hf : frame I args = some σ) (h : ∀ n, c ≤ n → (xss (callN n) (newN n) I.body σ).bind flT = some t) : Rets (c + 1) f args t := by
  intro n hn
  obtain ⟨m, rfl⟩ : ∃ m, n = m + 1 := ⟨n - 1, by lia⟩
  refine bindv (h m (by lia)) fun q h1 h2 => ?_
  rw [callN_info hi, runF, hf]
  show val (Option.bind (xss _ _ _ _) _) = _
  rw [h1]
  cases q <;> exact h2
theorem run_p {cf : Cf} {cn : Cn} {α : Type} {p : Fl → Option α} {ss : List S} {σ : Sg} {t : α} (fs : Tr) (e : obs p (rSs cf cn ss σ) fs = some (some t, told' (rSs cf cn ss σ) fs) := by kernel_rfl) : (xss cf cn ss σ).bind p = some t := by
  obtain ⟨a, h1, h2⟩ := (rSs_ok cf cn ss σ).obs e
  rw [h1]; exact h2
theorem run_v {cf : Cf} {cn : Cn} {ss : List S} {σ : Sg} {t : T} (fs : Tr) (e : obs flT (rSs cf cn ss σ) fs = some (some t, told' (rSs cf cn ss σ) fs) := by kernel_rfl) : (xss cf cn ss σ).bind flT = some t := run_p fs e
theorem seq {cf : Cf} {cn : Cn} {r : Fl} : ∀ (k : Nat) {ss : List S} {σ σ' : Sg}, xss cf cn (ss.take k) σ = some (.next σ') → xss cf cn (ss.drop k) σ' = some r → xss cf cn ss σ = some r
  | 0, _, _, _, h1, h2 => by cases h1; exact h2
  | _ + 1, [], _, _, h1, h2 => by cases h1; exact h2
  | k + 1, s :: ss, σ, σ', h1, h2 => bindv (o := xs cf cn s σ) h1 fun q e1 e2 => by
    show (xs cf cn s σ).bind _ = _
    rw [e1]
    cases q with
    | next σ1 => exact seq k e2 h2
    | ret t σ1 => cases e2
    | exc m => cases e2
theorem seqV {cf : Cf} {cn : Cn} {α : Type} {p : Fl → Option α} {t : α} (k : Nat) {ss : List S} {σ σ' : Sg} (h1 : xss cf cn (ss.take k) σ = some (.next σ')) (h2 : (xss cf cn (ss.drop k) σ').bind p = some t) : (xss cf cn ss σ).bind p = some t :=
  bindv h2 fun q e1 e2 => by rw [seq k h1 e1]; exact e2
theorem retsS {c n : Nat} {f : Fn} {I : Info} {args : List T} {t : T} {σ : Sg} (hi : info f = some I) (hn : c + 1 ≤ n) (fs : ∀ n, c ≤ n → Tr)
    (e : ∀ n (hn : c ≤ n), obs id (rFn (callN n) (newN n) I args) (fs n hn) = some ((t, σ), told' (rFn (callN n) (newN n) I args) (fs n hn)) := by intro n hn; kernel_rfl) : callN n f args = some (t, σ) := by
  obtain ⟨m, rfl⟩ : ∃ m, n = m + 1 := ⟨n - 1, by lia⟩
  rw [callN_info hi]
  exact (rFn_ok (callN m) (newN m) I args).run _ (e m (by lia))
noncomputable def gQ (q : T × Sg) : Option (T × T) := (gv q.2 0).bind fun x => some (q.1, x)
theorem retsG {c n : Nat} {f : Fn} {I : Info} {args : List T} {t t' : T} (hi : info f = some I) (hn : c + 1 ≤ n) (fs : ∀ n, c ≤ n → Tr)
    (e : ∀ n (hn : c ≤ n), obs gQ (rFn (callN n) (newN n) I args) (fs n hn) = some (some (t, t'), told' (rFn (callN n) (newN n) I args) (fs n hn)) := by intro n hn; kernel_rfl) : ∃ σ, callN n f args = some (t, σ) ∧ gv σ 0 = some t' := by
  obtain ⟨m, rfl⟩ : ∃ m, n = m + 1 := ⟨n - 1, by lia⟩
  obtain ⟨a, h1, h2⟩ := (rFn_ok (callN m) (newN m) I args).obs (e m (by lia))
  rw [callN_info hi, h1]
  exact bindv (o := gv a.2 0) h2 fun x e1 e2 => by cases e2; exact ⟨a.2, rfl, e1⟩
end MineP.Internal
end
section
set_option maxRecDepth 10000
namespace MineP.Internal
open Mine.Internal
theorem pyEq_int (k : Nat) (a b : Int) : pyEq k (.int a) (.int b) = some (decide (a = b)) := by cases k <;> rfl
section
variable {a b : Int}
theorem p_eq {r : Bool} (h : decide (a = b) = r) : prim .eq [.frz (.int a), .frz (.int b)] = some (.frz (.bool r)) := by rw [← h]; rfl
theorem p_ne {r : Bool} (h : decide (a = b) = r) : prim .ne [.frz (.int a), .frz (.int b)] = some (.frz (.bool (!r))) := by rw [← h]; rfl
theorem p_lt {r : Bool} (h : decide (a < b) = r) : prim .lt [.frz (.int a), .frz (.int b)] = some (.frz (.bool r)) := by rw [← h]; rfl
theorem p_gt {r : Bool} (h : decide (b < a) = r) : prim .gt [.frz (.int a), .frz (.int b)] = some (.frz (.bool r)) := by rw [← h]; rfl
theorem p_ge {r : Bool} (h : decide (b ≤ a) = r) : prim .ge [.frz (.int a), .frz (.int b)] = some (.frz (.bool r)) := by rw [← h]; rfl
theorem p_le {r : Bool} (h : decide (a ≤ b) = r) : prim .le [.frz (.int a), .frz (.int b)] = some (.frz (.bool r)) := by rw [← h]; rfl
noncomputable def geI {r : Bool} (h : decide (b ≤ a) = r) : Option Fact := tF (p_ge h)
noncomputable def leI {r : Bool} (h : decide (a ≤ b) = r) : Option Fact := tF (p_le h)
noncomputable def eq1 (h : a = b) : Option Fact := tF (p_eq (decide_eq_true h))
noncomputable def eq0 (h : a ≠ b) : Option Fact := tF (p_eq (decide_eq_false h))
noncomputable def ne1 (h : a ≠ b) : Option Fact := tF (p_ne (decide_eq_false h))
noncomputable def ne0 (h : a = b) : Option Fact := tF (p_ne (decide_eq_true h))
noncomputable def lt1 (h : a < b) : Option Fact := tF (p_lt (decide_eq_true h))
noncomputable def lt0 (h : ¬ a < b) : Option Fact := tF (p_lt (decide_eq_false h))
noncomputable def gt1 (h : b < a) : Option Fact := tF (p_gt (decide_eq_true h))
noncomputable def gt0 (h : ¬ b < a) : Option Fact := tF (p_gt (decide_eq_false h))
theorem p_mul (h : fitsMul a b = true) : prim .mul [.frz (.int a), .frz (.int b)] = some (.frz (.int (a * b))) := by
  show (if fitsMul a b then some (D.int (a * b)) else none).bind _ = _
  rw [if_pos h]; rfl
theorem p_fdiv (h : b ≠ 0) : prim .fdiv [.frz (.int a), .frz (.int b)] = some (.frz (.int (a.fdiv b))) := by
  show (if b = 0 then none else some (D.int (a.fdiv b))).bind _ = _
  rw [if_neg h]; rfl
theorem p_mod (h : b ≠ 0) : prim .mod [.frz (.int a), .frz (.int b)] = some (.frz (.int (a.fmod b))) := by
  show (if b = 0 then none else some (D.int (a.fmod b))).bind _ = _
  rw [if_neg h]; rfl
noncomputable def mulI (h : fitsMul a b = true) : Option Fact := tF (p_mul h)
noncomputable def fdivI (h : b ≠ 0) : Option Fact := tF (p_fdiv (a := a) h)
noncomputable def modI (h : b ≠ 0) : Option Fact := tF (p_mod (a := a) h)
end
theorem pow_mono2 {A B : Nat} (h : A ≤ B) : 2 ^ A ≤ 2 ^ B := Nat.pow_le_pow_right (by lia) h
theorem log2_le {a A : Nat} (h : a ≤ 2 ^ A) : a.log2 ≤ A := by
  by_cases h0 : a = 0
  · subst h0; simp
  · have : a < 2 ^ (A + 1) := by rw [Nat.pow_succ]; have := Nat.pow_pos (n := A) (show 0 < 2 by lia); lia
    have := (Nat.log2_lt h0).2 this
    lia
abbrev Room (k : Nat) : Prop := Nat.ble (k + 2) 134217728 = true
theorem fits_of {a b : Int} {A B : Nat} (ha : a.natAbs ≤ 2 ^ A) (hb : b.natAbs ≤ 2 ^ B) (h : Room (A + B)) : fitsMul a b = true := by
  have h1 := log2_le ha
  have h2 := log2_le hb
  have h3 := Nat.le_of_ble_eq_true h
  simp only [fitsMul, decide_eq_true_eq]
  lia
theorem mul_le_pow {a b A B : Nat} (ha : a ≤ 2 ^ A) (hb : b ≤ 2 ^ B) : a * b ≤ 2 ^ (A + B) := by
  rw [Nat.pow_add]; exact Nat.mul_le_mul ha hb
theorem nat_add_pow {a b B : Nat} (ha : a ≤ 2 ^ B) (hb : b ≤ 2 ^ B) : a + b ≤ 2 ^ (B + 1) := by rw [Nat.pow_succ]; lia
theorem one_le_pow2 (B : Nat) : 1 ≤ 2 ^ B := Nat.pow_pos (by lia)
abbrev Q := Int × Int
noncomputable def qD (q : Q) : D := .tup [.int q.1, .int q.2]
noncomputable def rp (x : Rat) : Q := (x.num, x.den)
noncomputable def rD (x : Rat) : D := qD (rp x)
noncomputable def naP (q : Q) : Bool := decide (q.1 = 0) && decide (q.2 = 0)
noncomputable def mkP (n d : Int) : Q := if d = 0 then (if n = 0 then (0, 0) else if 0 < n then (1, 0) else (-1, 0)) else rp (Rat.divInt n d)
noncomputable def negP (x : Q) : Q := (0 - x.1, x.2)
noncomputable def mulP (x y : Q) : Q := if (naP x || naP y) = true then (0, 0) else mkP (x.1 * y.1) (x.2 * y.2)
noncomputable def addP (x y : Q) : Q := if (naP x || naP y) = true then (0, 0) else if x.2 = 0 then (if y.2 = 0 then (if x.1 = y.1 then x else (0, 0)) else x) else if y.2 = 0 then y else mkP (x.1 * y.2 + y.1 * x.2) (x.2 * y.2)
noncomputable def divP (x y : Q) : Q := if (naP x || naP y) = true then (0, 0) else if x.2 = 0 then (if y.2 = 0 then (0, 0) else if y.1 < 0 then negP x else x) else mkP (x.1 * y.2) (x.2 * y.1)
noncomputable def HP (B : Nat) (q : Q) : Prop := q.1.natAbs ≤ 2 ^ B ∧ q.2.natAbs ≤ 2 ^ B
noncomputable def H (B : Nat) (x : Rat) : Prop := HP B (rp x)
theorem HP.mono {A B : Nat} {x : Q} (h : HP A x) (hb : A ≤ B) : HP B x := ⟨Nat.le_trans h.1 (pow_mono2 hb), Nat.le_trans h.2 (pow_mono2 hb)⟩
theorem H.mono {A B : Nat} {x : Rat} (h : H A x) (hb : A ≤ B) : H B x := HP.mono h hb
theorem H.up {A B : Nat} {x : Rat} (h : H A x) (hb : Nat.ble A B = true) : H B x := HP.mono h (Nat.le_of_ble_eq_true hb)
theorem HP.up {A B : Nat} {x : Q} (h : HP A x) (hb : Nat.ble A B = true) : HP B x := HP.mono h (Nat.le_of_ble_eq_true hb)
theorem HP_lit {B : Nat} {a b : Int} (ha : a.natAbs ≤ 1) (hb : b.natAbs ≤ 1) : HP B (a, b) := ⟨Nat.le_trans ha (one_le_pow2 B), Nat.le_trans hb (one_le_pow2 B)⟩
theorem H_divInt {n d : Int} {B : Nat} (hn : n.natAbs ≤ 2 ^ B) (hd : d.natAbs ≤ 2 ^ B) : H B (Rat.divInt n d) := by
  constructor
  · show (Rat.divInt n d).num.natAbs ≤ _
    rw [Rat.num_divInt]
    by_cases h0 : d = 0
    · subst h0; simp
    have hs : d.sign.natAbs = 1 := by rw [Int.natAbs_sign, if_neg h0]
    rw [Int.natAbs_ediv_of_dvd, Int.natAbs_mul, hs, Nat.one_mul]
    · exact Nat.le_trans (Nat.div_le_self _ _) hn
    · exact Int.dvd_mul_of_dvd_right (Int.gcd_dvd_right ..)
  · show ((Rat.divInt n d).den : Int).natAbs ≤ _
    rw [Int.natAbs_natCast, Rat.den_divInt]
    split
    · exact Nat.pow_pos (by lia)
    · exact Nat.le_trans (Nat.div_le_self _ _) hd
theorem HP_mk {n d : Int} {B : Nat} (hn : n.natAbs ≤ 2 ^ B) (hd : d.natAbs ≤ 2 ^ B) : HP B (mkP n d) := by
  unfold mkP
  split
  · split
    · exact HP_lit (by decide) (by decide)
    · split <;> exact HP_lit (by decide) (by decide)
  · exact H_divInt hn hd
section
variable {A B : Nat} {x y : Q}
theorem HP_neg (hx : HP A x) : HP A (negP x) := ⟨by show (0 - x.1).natAbs ≤ _; rw [Int.zero_sub, Int.natAbs_neg]; exact hx.1, hx.2⟩
theorem HP_mul (hx : HP A x) (hy : HP B y) : HP (A + B) (mulP x y) := by
  unfold mulP
  split
  · exact HP_lit (by decide) (by decide)
  · exact HP_mk (by rw [Int.natAbs_mul]; exact mul_le_pow hx.1 hy.1) (by rw [Int.natAbs_mul]; exact mul_le_pow hx.2 hy.2)
theorem HP_div (hx : HP A x) (hy : HP B y) : HP (A + B) (divP x y) := by
  unfold divP
  split
  · exact HP_lit (by decide) (by decide)
  · split
    · split
      · exact HP_lit (by decide) (by decide)
      · split
        · exact (HP_neg hx).mono (Nat.le_add_right _ _)
        · exact hx.mono (Nat.le_add_right _ _)
    · exact HP_mk (by rw [Int.natAbs_mul]; exact mul_le_pow hx.1 hy.2) (by rw [Int.natAbs_mul]; exact mul_le_pow hx.2 hy.1)
theorem HP_add (hx : HP A x) (hy : HP B y) : HP (A + B + 1) (addP x y) := by
  unfold addP
  split
  · exact HP_lit (by decide) (by decide)
  · split
    · split
      · split
        · exact hx.mono (by lia)
        · exact HP_lit (by decide) (by decide)
      · exact hx.mono (by lia)
    · split
      · exact hy.mono (by lia)
      · refine HP_mk (Nat.le_trans (Int.natAbs_add_le _ _) (nat_add_pow ?_ ?_)) ?_
        · rw [Int.natAbs_mul]; exact mul_le_pow hx.1 hy.2
        · rw [Int.natAbs_mul, Nat.add_comm A]; exact mul_le_pow hy.1 hx.2
        · rw [Int.natAbs_mul]; exact Nat.le_trans (mul_le_pow hx.2 hy.2) (pow_mono2 (by lia))
end
theorem rat_eq (x : Rat) : x = Rat.divInt x.num x.den := (Rat.num_divInt_den x).symm
theorem den_ne (x : Rat) : (x.den : Int) ≠ 0 := by have := x.den_nz; lia
theorem rp2 (x : Rat) : (rp x).2 ≠ 0 := den_ne x
theorem rp1 {x : Rat} (h : x ≠ 0) : (rp x).1 ≠ 0 := fun q => h (Rat.num_eq_zero.1 q)
theorem naP_rp (x : Rat) : naP (rp x) = false := by rw [naP, decide_eq_false (rp2 x), Bool.and_false]
theorem mkP_rp {n d : Int} (h : d ≠ 0) : mkP n d = rp (Rat.divInt n d) := if_neg h
theorem rp_mul (x y : Rat) : mulP (rp x) (rp y) = rp (x * y) := by
  unfold mulP
  rw [naP_rp, naP_rp, if_neg (by decide), mkP_rp (Int.mul_ne_zero (rp2 x) (rp2 y))]
  congr 1
  rw [rat_eq x, rat_eq y, Rat.divInt_mul_divInt, ← rat_eq, ← rat_eq]; rfl
theorem rp_add (x y : Rat) : addP (rp x) (rp y) = rp (x + y) := by
  unfold addP
  rw [naP_rp, naP_rp, if_neg (by decide), if_neg (rp2 x), if_neg (rp2 y), mkP_rp (Int.mul_ne_zero (rp2 x) (rp2 y))]
  congr 1
  conv => rhs; rw [rat_eq x, rat_eq y]
  rw [Rat.divInt_add_divInt _ _ (den_ne x) (den_ne y)]; rfl
theorem rp_neg (x : Rat) : negP (rp x) = rp (-x) := by simp [negP, rp]
theorem rp_div {x y : Rat} (h : y ≠ 0) : divP (rp x) (rp y) = rp (x / y) := by
  unfold divP
  rw [naP_rp, naP_rp, if_neg (by decide), if_neg (rp2 x), mkP_rp (Int.mul_ne_zero (rp2 x) (rp1 h))]
  congr 1
  conv => rhs; rw [rat_eq x, rat_eq y, Rat.div_def, Rat.inv_divInt, Rat.divInt_mul_divInt]
  rfl
section
variable {A B : Nat} {x y : Rat}
theorem H_add (hx : H A x) (hy : H B y) : H (A + B + 1) (x + y) := by have := HP_add hx hy; rwa [rp_add] at this
theorem H_mul (hx : H A x) (hy : H B y) : H (A + B) (x * y) := by have := HP_mul hx hy; rwa [rp_mul] at this
theorem H_neg (hx : H A x) : H A (-x) := by have := HP_neg hx; rwa [rp_neg] at this
theorem H_sub (hx : H A x) (hy : H B y) : H (A + B + 1) (x - y) := by rw [Rat.sub_eq_add_neg]; exact H_add hx (H_neg hy)
theorem H_zero : H 0 0 := ⟨by decide, by decide⟩
theorem H_one : H 0 1 := ⟨by decide, by decide⟩
theorem H_div (hx : H A x) (hy : H B y) : H (A + B) (x / y) := by
  by_cases h : y = 0
  · rw [h, Rat.div_def, Rat.inv_zero, Rat.mul_zero]; exact H_zero.mono (Nat.zero_le _)
  · have := HP_div hx hy; rwa [rp_div h] at this
end
end MineP.Internal
end
section
set_option maxRecDepth 10000
namespace MineP.Internal
open Mine.Internal
theorem euc {cf : Cf} {cn : Cn} {x y : Nat} {σ : Sg} {a b : Int} (h1 : gv σ x = some (.frz (.int a))) (h2 : gv σ y = some (.frz (.int b))) (ha : 0 ≤ a) (hb : 0 ≤ b) :
    xs cf cn (.euclid x y) σ = some (.next ((σ.set x (some (.frz (.int (Int.gcd a b))))).set y (some (.frz (.int 0))))) := by
  show (gv σ x).bind _ = _
  rw [h1]
  show (gv σ y).bind _ = _
  rw [h2]
  exact if_pos ⟨ha, hb⟩
theorem gcd_ok (a b : Int) (ha : 0 ≤ a) (hb : 0 ≤ b) : Rets 1 .f_gcd [.frz (.int a), .frz (.int b)] (.frz (.int (Int.gcd a b))) :=
  rets rfl (fun n _ => [sF (euc (cf := callN n) (cn := newN n) (x := 0) (y := 1) (σ := [some (.frz (.int a)), some (.frz (.int b))]) rfl rfl ha hb)])
theorem divInt_pos (a d : Int) (hd : 0 < d) : rD (Rat.divInt a d) = .tup [.int (a.fdiv (Int.gcd a d)), .int (d.fdiv (Int.gcd a d))] := by
  show D.tup [.int (Rat.divInt a d).num, .int (Rat.divInt a d).den] = _
  rw [Rat.num_divInt, Rat.den_divInt]
  have h0 : d ≠ 0 := by lia
  rw [if_neg h0, Int.gcd_comm d a, Int.sign_eq_one_of_pos hd, Int.one_mul]
  have hg : 0 ≤ (Int.gcd a d : Int) := by lia
  rw [Int.fdiv_eq_ediv_of_nonneg _ hg, Int.fdiv_eq_ediv_of_nonneg _ hg]
  congr 3
  have : d = (d.natAbs : Int) := by lia
  rw [Int.natCast_ediv, ← this]
theorem divInt_neg' (a d : Int) : Rat.divInt (0 - a) (0 - d) = Rat.divInt a d := by
  rw [Int.zero_sub, Int.zero_sub]; simp [Rat.divInt_neg']
theorem gcd_ne {a d : Int} (hd : 0 < d) : (Int.gcd a d : Int) ≠ 0 := by
  have : Int.gcd a d ≠ 0 := by rw [Ne, Int.gcd_eq_zero_iff]; lia
  lia
theorem gcd_abs (a d : Int) : Int.gcd (a.natAbs : Int) d = Int.gcd a d := by simp [Int.gcd]
theorem gcd_abs_ok (a d : Int) (hd : 0 < d) : Rets 1 .f_gcd [.frz (.int a.natAbs), .frz (.int d)] (.frz (.int (Int.gcd a d))) := by
  rw [← gcd_abs]; exact gcd_ok _ _ (Int.natCast_nonneg _) (Int.le_of_lt hd)
theorem make_ok (a d : Int) : Rets 2 .f_make [.frz (.int a), .frz (.int d)] (.frz (qD (mkP a d))) := by
  by_cases h : d = 0
  · rw [mkP, if_pos h]
    subst h
    by_cases h1 : a = 0
    · rw [if_pos h1]
      exact rets rfl (fun n _ => [none, eq1 h1])
    · rw [if_neg h1]
      by_cases h2 : 0 < a
      · rw [if_pos h2]
        exact rets rfl (fun n _ => [none, eq0 h1, gt1 h2])
      · rw [if_neg h2]
        exact rets rfl (fun n _ => [none, eq0 h1, gt0 h2])
  · rw [mkP_rp h]
    show Rets _ _ _ (.frz (rD _))
    by_cases h1 : d < 0
    · have h2 : 0 < 0 - d := by lia
      rw [← divInt_neg', divInt_pos _ _ h2]
      exact rets rfl (fun n hn => [eq0 h, lt1 h1, cF hn (gcd_abs_ok (0 - a) (0 - d) h2) rfl, fdivI (a := 0 - a) (gcd_ne (a := 0 - a) h2), fdivI (a := 0 - d) (gcd_ne (a := 0 - a) h2)])
    · have h2 : 0 < d := by lia
      rw [divInt_pos _ _ h2]
      exact rets rfl (fun n hn => [eq0 h, lt0 h1, cF hn (gcd_abs_ok a d h2) rfl, fdivI (a := a) (gcd_ne (a := a) h2), fdivI (a := d) (gcd_ne (a := a) h2)])
theorem is_na_ok (q : Q) : Rets 1 .f_is_na [.frz (qD q)] (.frz (.bool (naP q))) := by
  unfold naP
  by_cases h1 : q.1 = 0
  · by_cases h2 : q.2 = 0
    · rw [decide_eq_true h1, decide_eq_true h2]
      exact rets rfl (fun n _ => [eq1 h1, eq1 h2])
    · rw [decide_eq_true h1, decide_eq_false h2]
      exact rets rfl (fun n _ => [eq1 h1, eq0 h2])
  · rw [decide_eq_false h1]
    exact rets rfl (fun n _ => [eq0 h1])
theorem is_na_b {q : Q} {b : Bool} (h : naP q = b) : Rets 1 .f_is_na [.frz (qD q)] (.frz (.bool b)) := h ▸ is_na_ok q
theorem marked_ok (x y : Q) : Rets 1 .f_marked [.frz (qD x), .frz (qD y)] (.frz (qD (0, 0))) :=
  rets rfl (fun n _ => [])
theorem negP_ok (x : Q) : Rets 1 .f_neg [.frz (qD x)] (.frz (qD (negP x))) :=
  rets rfl (fun n _ => [])
theorem orb {a b : Bool} (h : ¬ (a || b) = true) : a = false ∧ b = false := by simpa using h
section
variable {A B : Nat} {x y : Q}
theorem mulP_ok (hx : HP A x) (hy : HP B y) (h : Room (A + B)) : Rets 3 .f_mul [.frz (qD x), .frz (qD y)] (.frz (qD (mulP x y))) := by
  unfold mulP
  by_cases hn : (naP x || naP y) = true
  · rw [if_pos hn]
    cases h1 : naP x with
    | true => exact rets rfl (fun n hn => [cF hn (is_na_b h1) rfl, cF hn (marked_ok x y) rfl])
    | false =>
      rw [h1] at hn
      exact rets rfl (fun n hc => [cF hc (is_na_b h1) rfl, cF hc (is_na_b hn) rfl, cF hc (marked_ok x y) rfl])
  · rw [if_neg hn]
    obtain ⟨h1, h2⟩ := orb hn
    exact rets rfl (fun n hn => [cF hn (is_na_b h1) rfl, cF hn (is_na_b h2) rfl, mulI (fits_of hx.1 hy.1 h), mulI (fits_of hx.2 hy.2 h), cF hn (make_ok (x.1 * y.1) (x.2 * y.2)) rfl])
theorem addP_ok (hx : HP A x) (hy : HP B y) (h : Room (A + B)) : Rets 3 .f_add [.frz (qD x), .frz (qD y)] (.frz (qD (addP x y))) := by
  unfold addP
  by_cases hn : (naP x || naP y) = true
  · rw [if_pos hn]
    cases h1 : naP x with
    | true => exact rets rfl (fun n hn => [cF hn (is_na_b h1) rfl, cF hn (marked_ok x y) rfl])
    | false =>
      rw [h1] at hn
      exact rets rfl (fun n hc => [cF hc (is_na_b h1) rfl, cF hc (is_na_b hn) rfl, cF hc (marked_ok x y) rfl])
  · rw [if_neg hn]
    obtain ⟨h1, h2⟩ := orb hn
    by_cases he : x.2 = 0
    · rw [if_pos he]
      by_cases hf : y.2 = 0
      · rw [if_pos hf]
        by_cases hg : x.1 = y.1
        · rw [if_pos hg]
          exact rets rfl (fun n hn => [cF hn (is_na_b h1) rfl, cF hn (is_na_b h2) rfl, eq1 he, eq1 hf, eq1 hg])
        · rw [if_neg hg]
          exact rets rfl (fun n hn => [cF hn (is_na_b h1) rfl, cF hn (is_na_b h2) rfl, eq1 he, eq1 hf, eq0 hg])
      · rw [if_neg hf]
        exact rets rfl (fun n hn => [cF hn (is_na_b h1) rfl, cF hn (is_na_b h2) rfl, eq1 he, eq0 hf, eq1 he])
    · rw [if_neg he]
      by_cases hf : y.2 = 0
      · rw [if_pos hf]
        exact rets rfl (fun n hn => [cF hn (is_na_b h1) rfl, cF hn (is_na_b h2) rfl, eq0 he, eq0 he, eq1 hf])
      · rw [if_neg hf]
        exact rets rfl (fun n hn => [cF hn (is_na_b h1) rfl, cF hn (is_na_b h2) rfl, eq0 he, eq0 he, eq0 hf, mulI (fits_of hx.1 hy.2 h), mulI (fits_of hy.1 hx.2 (by rw [Nat.add_comm]; exact h)), mulI (fits_of hx.2 hy.2 h), cF hn (make_ok (x.1 * y.2 + y.1 * x.2) (x.2 * y.2)) rfl])
theorem divP_ok (hx : HP A x) (hy : HP B y) (h : Room (A + B)) : Rets 3 .f_div [.frz (qD x), .frz (qD y)] (.frz (qD (divP x y))) := by
  unfold divP
  by_cases hn : (naP x || naP y) = true
  · rw [if_pos hn]
    cases h1 : naP x with
    | true => exact rets rfl (fun n hn => [cF hn (is_na_b h1) rfl, cF hn (marked_ok x y) rfl])
    | false =>
      rw [h1] at hn
      exact rets rfl (fun n hc => [cF hc (is_na_b h1) rfl, cF hc (is_na_b hn) rfl, cF hc (marked_ok x y) rfl])
  · rw [if_neg hn]
    obtain ⟨h1, h2⟩ := orb hn
    by_cases he : x.2 = 0
    · rw [if_pos he]
      by_cases hf : y.2 = 0
      · rw [if_pos hf]
        exact rets rfl (fun n hn => [cF hn (is_na_b h1) rfl, cF hn (is_na_b h2) rfl, eq1 he, eq1 hf])
      · rw [if_neg hf]
        by_cases hg : y.1 < 0
        · rw [if_pos hg]
          exact rets rfl (fun n hn => [cF hn (is_na_b h1) rfl, cF hn (is_na_b h2) rfl, eq1 he, eq0 hf, eq1 he, lt1 hg, cF hn (negP_ok x) rfl])
        · rw [if_neg hg]
          exact rets rfl (fun n hn => [cF hn (is_na_b h1) rfl, cF hn (is_na_b h2) rfl, eq1 he, eq0 hf, eq1 he, lt0 hg])
    · rw [if_neg he]
      exact rets rfl (fun n hn => [cF hn (is_na_b h1) rfl, cF hn (is_na_b h2) rfl, eq0 he, eq0 he, mulI (fits_of hx.1 hy.2 h), mulI (fits_of hx.2 hy.1 h), cF hn (make_ok (x.1 * y.2) (x.2 * y.1)) rfl])
theorem subP_ok (hx : HP A x) (hy : HP B y) (h : Room (A + B)) : Rets 4 .f_sub [.frz (qD x), .frz (qD y)] (.frz (qD (addP x (negP y)))) :=
  rets rfl (fun n hn => [cF hn (negP_ok y) rfl, cF hn (addP_ok hx (HP_neg hy) h) rfl])
end
section
variable {A B : Nat} {x y : Rat}
theorem add_ok (hx : H A x) (hy : H B y) (h : Room (A + B)) : Rets 3 .f_add [.frz (rD x), .frz (rD y)] (.frz (rD (x + y))) := by
  have := addP_ok hx hy h; rwa [rp_add] at this
theorem mul_ok (hx : H A x) (hy : H B y) (h : Room (A + B)) : Rets 3 .f_mul [.frz (rD x), .frz (rD y)] (.frz (rD (x * y))) := by
  have := mulP_ok hx hy h; rwa [rp_mul] at this
theorem div_ok (hx : H A x) (hy : H B y) (h : Room (A + B)) (h0 : y ≠ 0) : Rets 3 .f_div [.frz (rD x), .frz (rD y)] (.frz (rD (x / y))) := by
  have := divP_ok hx hy h; rwa [rp_div h0] at this
theorem sub_ok (hx : H A x) (hy : H B y) (h : Room (A + B)) : Rets 4 .f_sub [.frz (rD x), .frz (rD y)] (.frz (rD (x - y))) := by
  have := subP_ok hx hy h; rwa [rp_neg, rp_add, ← Rat.sub_eq_add_neg] at this
end
theorem is_finite_ok (x : Rat) : Rets 1 .f_is_finite [.frz (rD x)] (.frz (.bool true)) :=
  rets rfl (fun n _ => [gt1 (Int.natCast_pos.2 x.den_pos)])
theorem low_ok (a d : Int) (hd : d ≠ 0) : Rets 1 .f_law_low [.frz (.int a), .frz (.int d)] (.frz (rD (Rat.divInt a d))) := by
  have key : ∀ (a d x : Int) (n : Nat), 0 < d → x = a.natAbs → xs (callN n) (newN n) (.euclid 3 2) [some (.frz (.int a)), some (.frz (.int d)), some (.frz (.int x)), some (.frz (.int d))] = some (.next [some (.frz (.int a)), some (.frz (.int d)), some (.frz (.int 0)), some (.frz (.int (Int.gcd a d)))]) := by
    rintro a d x n h rfl
    have := euc (cf := callN n) (cn := newN n) (x := 3) (y := 2) (σ := [some (.frz (.int a)), some (.frz (.int d)), some (.frz (.int a.natAbs)), some (.frz (.int d))]) rfl rfl (Int.le_of_lt h) (Int.natCast_nonneg _)
    rw [Int.gcd_comm, gcd_abs] at this
    exact this
  by_cases h1 : d < 0
  · have h2 : 0 < 0 - d := by lia
    have hg := gcd_ne (a := 0 - a) h2
    rw [← divInt_neg', divInt_pos _ _ h2]
    rw [Int.zero_sub, Int.zero_sub] at hg ⊢
    rw [Int.zero_sub] at h2
    by_cases h3 : 0 ≤ -a
    · exact rets rfl (fun n hn => [lt1 h1, geI (a := -a) (b := 0) (decide_eq_true h3), sF (key (-a) (-d) (-a) n h2 (by lia)), fdivI (a := -a) hg, fdivI (a := -d) hg])
    · exact rets rfl (fun n hn => [lt1 h1, geI (a := -a) (b := 0) (decide_eq_false h3), sF (key (-a) (-d) (- -a) n h2 (by lia)), fdivI (a := -a) hg, fdivI (a := -d) hg])
  · have h2 : 0 < d := by lia
    have hg := gcd_ne (a := a) h2
    rw [divInt_pos _ _ h2]
    by_cases h3 : 0 ≤ a
    · exact rets rfl (fun n hn => [lt0 h1, geI (a := a) (b := 0) (decide_eq_true h3), sF (key a d a n h2 (by lia)), fdivI (a := a) hg, fdivI (a := d) hg])
    · exact rets rfl (fun n hn => [lt0 h1, geI (a := a) (b := 0) (decide_eq_false h3), sF (key a d (-a) n h2 (by lia)), fdivI (a := a) hg, fdivI (a := d) hg])
section
variable {A B : Nat} {x y : Rat}
theorem law_add_ok (hx : H A x) (hy : H B y) (h : Room (A + B)) : Rets 2 .f_law_add [.frz (rD x), .frz (rD y)] (.frz (rD (x + y))) := by
  have := rp_add x y
  unfold addP at this
  rw [naP_rp, naP_rp, if_neg (by decide), if_neg (rp2 x), if_neg (rp2 y), mkP_rp (Int.mul_ne_zero (rp2 x) (rp2 y))] at this
  show Rets _ _ _ (.frz (qD (rp (x + y))))
  rw [← this]
  exact rets rfl fun n hn => [mulI (fits_of hx.1 hy.2 h), mulI (fits_of hy.1 hx.2 (by rw [Nat.add_comm]; exact h)), mulI (fits_of hx.2 hy.2 h), cF hn (low_ok ((rp x).1 * (rp y).2 + (rp y).1 * (rp x).2) ((rp x).2 * (rp y).2) (Int.mul_ne_zero (rp2 x) (rp2 y))) rfl]
theorem law_mul_pair {a d : Int} (hx : H A x) (ha : HP B (a, d)) (h0 : d ≠ 0) (h : Room (A + B)) : Rets 2 .f_law_mul [.frz (rD x), .frz (qD (a, d))] (.frz (rD (x * Rat.divInt a d))) := by
  have : x * Rat.divInt a d = Rat.divInt (x.num * a) (x.den * d) := by
    conv => lhs; rw [rat_eq x, Rat.divInt_mul_divInt]
  rw [this]
  exact rets rfl fun n hn => [mulI (fits_of hx.1 ha.1 h), mulI (fits_of hx.2 ha.2 h), cF hn (low_ok (x.num * a) (x.den * d) (Int.mul_ne_zero (den_ne x) h0)) rfl]
theorem law_mul_ok (hx : H A x) (hy : H B y) (h : Room (A + B)) : Rets 2 .f_law_mul [.frz (rD x), .frz (rD y)] (.frz (rD (x * y))) := by
  have := law_mul_pair (a := y.num) (d := y.den) hx hy (den_ne y) h
  rwa [← rat_eq] at this
theorem law_by_ok (hx : H A x) (hy : H B y) (h : Room (A + B)) (h0 : y ≠ 0) : Rets 2 .f_law_by [.frz (rD x), .frz (rD y)] (.frz (rD (x / y))) := by
  have := rp_div (x := x) h0
  unfold divP at this
  rw [naP_rp, naP_rp, if_neg (by decide), if_neg (rp2 x), mkP_rp (Int.mul_ne_zero (rp2 x) (rp1 h0))] at this
  show Rets _ _ _ (.frz (qD (rp (x / y))))
  rw [← this]
  exact rets rfl fun n hn => [mulI (fits_of hx.1 hy.2 h), mulI (fits_of hx.2 hy.1 h), cF hn (low_ok ((rp x).1 * (rp y).2) ((rp x).2 * (rp y).1) (Int.mul_ne_zero (rp2 x) (rp1 h0))) rfl]
theorem law_minus_ok (hx : H A x) (hy : H B y) (h : Room (A + B)) : Rets 3 .f_law_minus [.frz (rD x), .frz (rD y)] (.frz (rD (x - y))) := by
  rw [Rat.sub_eq_add_neg]
  have e : D.tup [.int (-y.num), .int y.den] = rD (-y) := by rw [rD, ← rp_neg, negP, Int.zero_sub]; rfl
  have h2 := law_add_ok hx (H_neg hy) h
  rw [← e] at h2
  exact rets rfl fun n hn => [cF hn h2 rfl]
end
end MineP.Internal
end
section
set_option maxRecDepth 10000
namespace MineP.Internal
open Mine.Internal
noncomputable def sm : Nat → (Nat → Rat) → Rat
  | 0, _ => 0
  | n + 1, f => sm n f + f n
theorem sm_congr {n : Nat} {f g : Nat → Rat} (h : ∀ k, k < n → f k = g k) : sm n f = sm n g := by
  induction n with
  | zero => rfl
  | succ n ih => rw [sm, sm, ih fun k hk => h k (by lia), h n (by lia)]
theorem H_sm {n A : Nat} {f : Nat → Rat} (h : ∀ k, k < n → H A (f k)) : H (n * (A + 1)) (sm n f) := by
  induction n with
  | zero => exact H_zero.mono (Nat.zero_le _)
  | succ n ih =>
    rw [sm]
    refine (H_add (ih fun k hk => h k (by lia)) (h n (by lia))).mono ?_
    rw [Nat.succ_mul]; lia
noncomputable def rg (n : Nat) (g : Nat → D) : List D := (List.range n).map g
noncomputable def fl (n : Nat) (g : Nat → D) : D := .list (rg n g)
noncomputable def ol (n : Nat) (g : Nat → D) : T := .olist ((rg n g).map .frz)
theorem rg_congr {n : Nat} {f g : Nat → D} (h : ∀ k, k < n → f k = g k) : rg n f = rg n g := List.map_congr_left fun k hk => h k (List.mem_range.1 hk)
theorem fl_congr {n : Nat} {f g : Nat → D} (h : ∀ k, k < n → f k = g k) : fl n f = fl n g := congrArg D.list (rg_congr h)
theorem ol_congr {n : Nat} {f g : Nat → D} (h : ∀ k, k < n → f k = g k) : ol n f = ol n g := congrArg (fun l => T.olist (List.map T.frz l)) (rg_congr h)
theorem rg_length (n : Nat) (g : Nat → D) : (rg n g).length = n := by rw [rg, List.length_map, List.length_range]
theorem rg_get {n k : Nat} (g : Nat → D) (hk : k < n) : (rg n g)[k]? = some (g k) := by rw [rg, List.getElem?_map, List.getElem?_range hk]; rfl
theorem rg_succ (n : Nat) (g : Nat → D) : rg (n + 1) g = rg n g ++ [g n] := by rw [rg, List.range_succ, List.map_append]; rfl
theorem rg_set {n k : Nat} {g : Nat → D} {d : D} : (rg n g).set k d = rg n (fun i => if i = k then d else g i) := by
  apply List.ext_getElem
  · simp [rg]
  · intro i h1 h2
    simp only [rg, List.getElem_set, List.getElem_map, List.getElem_range]
    by_cases h : k = i
    · rw [if_pos h, if_pos h.symm]
    · rw [if_neg h, if_neg (Ne.symm h)]
theorem freezeL_frz (l : List D) : freezeL (l.map T.frz) = l := by
  induction l with
  | nil => rfl
  | cons x l ih => exact congrArg (x :: ·) ih
theorem freeze_l (l : List D) : (T.olist (l.map .frz)).freeze = .list l := congrArg D.list (freezeL_frz l)
theorem freeze_ol (n : Nat) (g : Nat → D) : (ol n g).freeze = fl n g := freeze_l _
theorem allD_frz (l : List D) : allD (l.map T.frz) = some l := by
  induction l with
  | nil => rfl
  | cons x l ih =>
    show (allD (l.map T.frz)).bind _ = _
    rw [ih]; rfl
theorem idx_nat {k : Nat} (h : k ≤ 1000) : idx (k : Int) = some k := if_pos ⟨Int.natCast_nonneg _, by lia⟩
theorem item_list {l : List D} {k : Nat} {d : D} (hk : k ≤ 1000) (h : l[k]? = some d) : prim .item [.frz (.list l), .frz (.int k)] = some (.frz d) := by
  show (idx k).bind _ = _
  rw [idx_nat hk]
  show (l[k]?).bind _ = _
  rw [h]; rfl
theorem item_olist {l : List T} {k : Nat} {d : T} (hk : k ≤ 1000) (h : l[k]? = some d) : prim .item [.olist l, .frz (.int k)] = some d := by
  show (idx k).bind _ = _
  rw [idx_nat hk]; exact h
theorem item_fl {n k : Nat} (g : Nat → D) (hk : k < n) (hn : n ≤ 1000) : prim .item [.frz (fl n g), .frz (.int k)] = some (.frz (g k)) := item_list (by lia) (rg_get g hk)
theorem item_ol {n k : Nat} (g : Nat → D) (hk : k < n) (hn : n ≤ 1000) : prim .item [ol n g, .frz (.int k)] = some (.frz (g k)) := item_olist (by lia) (by rw [List.getElem?_map, rg_get g hk]; rfl)
theorem len_list {l : List D} {n : Nat} (h : l.length = n) (hn : n ≤ 1000) : prim .len [.frz (.list l)] = some (.frz (.int n)) := by
  subst h; exact if_pos hn
theorem len_olist {l : List T} {n : Nat} (h : l.length = n) (hn : n ≤ 1000) : prim .len [.olist l] = some (.frz (.int n)) := by
  subst h; exact if_pos hn
theorem small_le {n : Nat} (hn : n ≤ 1000) : small (n : Int) = true := decide_eq_true hn
theorem range1 {n : Nat} (hn : n ≤ 1000) : rangeItems [.frz (.int n)] = some (rg n fun k => .int (k : Int)) := by
  refine (if_pos (small_le hn)).trans (congrArg some ?_)
  unfold rangeL
  rw [Int.sub_zero, Int.toNat_natCast]
  exact rg_congr fun k _ => by rw [Int.zero_add]
theorem range2 {a b : Nat} (ha : a ≤ 1000) (hb : b ≤ 1000) : rangeItems [.frz (.int a), .frz (.int b)] = some (rg (b - a) fun k => .int ((a : Int) + (k : Int))) := by
  refine (if_pos (by rw [small_le ha, small_le hb]; rfl)).trans (congrArg some ?_)
  unfold rangeL
  rw [Int.toNat_sub]; rfl
theorem rangeD {n : Nat} {a : Int} (ha : a = (n : Int) - 1) (hn : n ≤ 1000) : rangeItems [.frz (.int a), .frz (.int (-1)), .frz (.int (-1))] = some (rg n fun k => .int ((n - 1 - k : Nat) : Int)) := by
  subst ha
  have h1 : small ((n : Int) - 1) = true := decide_eq_true (by lia)
  refine (if_pos (by rw [h1]; rfl)).trans (congrArg some ?_)
  unfold rangeDown
  rw [Int.sub_neg, Int.sub_add_cancel, Int.toNat_natCast]
  refine rg_congr (f := fun k => .int ((n : Int) - 1 - (k : Int))) (n := n) fun k hk => ?_
  congr 1; lia
theorem append_l {l : List D} {d : D} (hl : l.length ≤ 1000) : appendT (.frz d) (.olist (l.map .frz)) = some (.olist ((l ++ [d]).map .frz)) := by
  refine (if_pos (by rw [List.length_map]; exact hl)).trans ?_
  rw [List.map_append]; rfl
theorem append_ol {n : Nat} (g : Nat → D) {d : D} (hn : n ≤ 1000) (h : g n = d) : appendT (.frz d) (ol n g) = some (ol (n + 1) g) := by
  rw [ol, append_l (by rw [rg_length]; exact hn), ← h, ← rg_succ]; rfl
theorem store_ol {n k : Nat} {g : Nat → D} {d : D} (hk : k < n) (hn : n ≤ 1000) : storeI (.frz d) (.frz (.int k)) (ol n g) = some (ol n fun i => if i = k then d else g i) := by
  show (idx k).bind _ = _
  rw [idx_nat (by lia)]
  refine (if_pos (by rw [List.length_map, rg_length]; exact hk)).trans ?_
  rw [ol, ← rg_set, List.map_set]
theorem rep_ol (d : D) {n : Nat} (hn : n ≤ 1000) : repT [d] n = some (ol n fun _ => d) := by
  refine (if_pos (by rw [small_le hn]; rfl)).trans ?_
  unfold repD ol
  congr 3
  rw [Int.toNat_natCast]
  induction n with
  | zero => rfl
  | succ n ih =>
    have ih := ih (by lia)
    rw [rg_succ, ← ih, List.replicate_succ', List.flatten_append]; rfl
noncomputable def itF {n k : Nat} (g : Nat → D) (hk : k < n) (hn : n ≤ 1000) : Option Fact := tF (item_fl g hk hn)
noncomputable def itO {n k : Nat} (g : Nat → D) (hk : k < n) (hn : n ≤ 1000) : Option Fact := tF (item_ol g hk hn)
noncomputable def lnF {n : Nat} (g : Nat → D) (hn : n ≤ 1000) : Option Fact := tF (len_list (rg_length n g) hn)
noncomputable def rgF {n : Nat} (hn : n ≤ 1000) : Option Fact := lF (range1 hn)
noncomputable def apF {n : Nat} (g : Nat → D) (hn : n ≤ 1000) : Option Fact := tF (append_ol g hn rfl)
noncomputable def stF {n k : Nat} (g : Nat → D) (d : D) (hk : k < n) (hn : n ≤ 1000) : Option Fact := tF (store_ol (g := g) (d := d) hk hn)
noncomputable def zoF (n : Nat) (g : Nat → D) : Option Fact := zF (freeze_ol n g)
noncomputable def zlF (l : List D) : Option Fact := zF (freeze_l l)
noncomputable def cpF {l : List D} (h : l.length ≤ 1000) : Option Fact := tF (o := cpyT l) (if_pos h)
noncomputable def cgF {n : Nat} (g : Nat → D) (h : n ≤ 1000) : Option Fact := cpF (l := rg n g) (by rw [rg_length]; exact h)
noncomputable def rpF (d : D) {n : Nat} (hn : n ≤ 1000) : Option Fact := tF (rep_ol d hn)
section
variable {A B d n : Nat} {x y : Rat}
noncomputable def addF (hn : d ≤ n) (hx : H A x) (hy : H B y) (h : Room (A + B) := by exact rfl) (e : Nat.ble 3 d = true := by exact rfl) : Option Fact := cF hn (add_ok hx hy h) e
noncomputable def mulF (hn : d ≤ n) (hx : H A x) (hy : H B y) (h : Room (A + B) := by exact rfl) (e : Nat.ble 3 d = true := by exact rfl) : Option Fact := cF hn (mul_ok hx hy h) e
noncomputable def subF (hn : d ≤ n) (hx : H A x) (hy : H B y) (h : Room (A + B) := by exact rfl) (e : Nat.ble 4 d = true := by exact rfl) : Option Fact := cF hn (sub_ok hx hy h) e
noncomputable def divF (hn : d ≤ n) (hx : H A x) (hy : H B y) (h0 : y ≠ 0) (h : Room (A + B) := by exact rfl) (e : Nat.ble 3 d = true := by exact rfl) : Option Fact := cF hn (div_ok hx hy h h0) e
end
noncomputable def stm (l : List S) (k : Nat) : S := l.getD k .fail
noncomputable def unf (s : S) : S := match s with
  | .fgt _ s => s
  | s => s
noncomputable def lp (s : S) : Nat × It × List S := match s with
  | .loop i it b => (i, it, b)
  | _ => (0, .range [], [])
noncomputable def cp (e : E) : Nat × It × Option C × E := match e with
  | .comp i it c e => (i, it, c, e)
  | _ => (0, .range [], none, .fail)
noncomputable def brA (s : S) : List S := match s with
  | .iff _ a _ => a
  | _ => []
noncomputable def xE (s : S) : E := match s with
  | .asg _ e => e
  | .ret e => e
  | .set _ _ _ e => e
  | _ => .fail
noncomputable def unz (e : E) : E := match e with
  | .frz e => e
  | e => e
section
variable {cf : Cf} {cn : Cn}
theorem forLoop_rg {step : D → Sg → Option Fl} {g : Nat → D} (I : Nat → Sg → Prop) : ∀ {n : Nat} {σ : Sg}, I 0 σ → (∀ k σ, k < n → I k σ → ∃ σ', step (g k) σ = some (.next σ') ∧ I (k + 1) σ') →
    ∃ σ', forLoop step (rg n g) σ = some (.next σ') ∧ I n σ' := by
  intro n σ h0 h
  have key : ∀ (m a : Nat) (σ : Sg), a + m = n → I a σ → ∃ σ', forLoop step ((List.range' a m).map g) σ = some (.next σ') ∧ I n σ' := by
    intro m
    induction m with
    | zero => intro a σ e hI; exact ⟨σ, rfl, by rw [← e]; exact hI⟩
    | succ m ih =>
      intro a σ e hI
      obtain ⟨σ1, h1, h2⟩ := h a σ (by lia) hI
      obtain ⟨σ2, h3, h4⟩ := ih (a + 1) σ1 (by lia) h2
      refine ⟨σ2, ?_, h4⟩
      rw [List.range'_succ, List.map_cons, forLoop, h1]; exact h3
  have := key n 0 σ (by lia) h0
  rwa [← List.range_eq_range'] at this
theorem loop_inv {i : Nat} {it : It} {body : List S} {n : Nat} {g : Nat → D} {σ σ1 : Sg} (I : Nat → Sg → Prop) (hit : evi cf cn it σ = some (rg n g, σ1)) (h0 : I 0 σ1)
    (h : ∀ k σ, k < n → I k σ → ∃ σ', xss cf cn body (σ.set i (some (.frz (g k)))) = some (.next σ') ∧ I (k + 1) σ') : ∃ σ', xs cf cn (.loop i it body) σ = some (.next σ') ∧ I n σ' := by
  obtain ⟨σ', h1, h2⟩ := forLoop_rg (step := fun d σ => xss cf cn body (σ.set i (some (.frz d)))) I h0 h
  refine ⟨σ', ?_, h2⟩
  show (evi cf cn it σ).bind _ = _
  rw [hit]; exact h1
theorem loop_by (s : S) {n : Nat} {g : Nat → D} (St : Nat → Sg) (fi : Tr)
    (hb : ∀ k, k < n → xss cf cn (lp s).2.2 ((St k).set (lp s).1 (some (.frz (g k)))) = some (.next (St (k + 1))))
    (ei : obs id (rI cf cn (lp s).2.1 (St 0)) fi = some ((rg n g, St 0), told' (rI cf cn (lp s).2.1 (St 0)) fi) := by kernel_rfl)
    (hs : s = .loop (lp s).1 (lp s).2.1 (lp s).2.2 := by kernel_rfl) : xs cf cn s (St 0) = some (.next (St n)) := by
  obtain ⟨σ', h1, h2⟩ := loop_inv (cf := cf) (cn := cn) (i := (lp s).1) (body := (lp s).2.2) (fun k σ => σ = St k) (run_i fi ei) rfl (fun k σ hk e => ⟨_, by rw [e]; exact hb k hk, rfl⟩)
  rw [hs, h1, h2]
theorem loop_ok (s : S) {n : Nat} {g : Nat → D} (St : Nat → Sg) (fi : Tr) (fb : ∀ k, k < n → Tr)
    (ei : obs id (rI cf cn (lp s).2.1 (St 0)) fi = some ((rg n g, St 0), told' (rI cf cn (lp s).2.1 (St 0)) fi) := by kernel_rfl)
    (eb : ∀ k (hk : k < n), obs id (rSs cf cn (lp s).2.2 ((St k).set (lp s).1 (some (.frz (g k))))) (fb k hk) = some (.next (St (k + 1)), told' (rSs cf cn (lp s).2.2 ((St k).set (lp s).1 (some (.frz (g k))))) (fb k hk)) := by intro k hk; kernel_rfl)
    (hs : s = .loop (lp s).1 (lp s).2.1 (lp s).2.2 := by kernel_rfl) : xs cf cn s (St 0) = some (.next (St n)) := loop_by s St fi (fun k hk => run_ss (fb k hk) (eb k hk)) ei hs
theorem set_self (σ : Sg) (i : Nat) : σ = σ.set i (σ[i]?.join) := by
  by_cases h : i < σ.length
  · rw [List.getElem?_eq_getElem h, Option.join_some, List.set_getElem_self]
  · rw [List.set_eq_of_length_le (by lia)]
theorem compLoop_map {α : Type} {step : D → Sg → Option (Option T × Sg)} {σ0 : Sg} {i : Nat} (l : List α) (g : α → D) (f : α → Option D)
    (h : ∀ a, a ∈ l → ∀ x, step (g a) (σ0.set i x) = some ((f a).map .frz, σ0.set i (some (.frz (g a))))) :
    ∀ x, ∃ y, compLoop step (l.map g) (σ0.set i x) = some ((l.filterMap f).map .frz, σ0.set i y) := by
  induction l with
  | nil => intro x; exact ⟨x, rfl⟩
  | cons d l ih =>
    intro x
    obtain ⟨y, hy⟩ := ih (fun d hd => h d (.tail _ hd)) (some (.frz (g d)))
    refine ⟨y, ?_⟩
    rw [List.map_cons, compLoop, h d (.head _), Option.bind_some, hy]
    cases hf : f d with
    | none => rw [List.filterMap_cons_none hf]; rfl
    | some z => rw [List.filterMap_cons_some hf]; rfl
theorem ev_compL {α : Type} {i : Nat} {it : It} {elt : E} {σ : Sg} (l : List α) (g f : α → D) (hit : evi cf cn it σ = some (l.map g, σ)) (hl : l.length ≤ 1000)
    (h : ∀ a, a ∈ l → ev cf cn elt (σ.set i (some (.frz (g a)))) = some (.frz (f a), σ.set i (some (.frz (g a))))) :
    ev cf cn (.comp i it none elt) σ = some (.olist ((l.map f).map .frz), σ.set i none) := by
  obtain ⟨y, hy⟩ := compLoop_map (σ0 := σ) (i := i) (step := fun d σ => (ev cf cn elt (σ.set i (some (.frz d)))).bind fun q => (asD q.1).bind fun x => some (some (.frz x), q.2)) l g (fun a => some (f a))
    (fun a ha x => by rw [List.set_set, h a ha]; rfl) (σ[i]?.join)
  rw [← set_self, List.filterMap_eq_map'] at hy
  show (evi cf cn it σ).bind _ = _
  rw [hit]
  refine (if_neg (by rw [List.length_map]; lia)).trans ?_
  show Option.bind (compLoop (fun d σ => (ev cf cn elt (σ.set i (some (.frz d)))).bind fun q => (asD q.1).bind fun x => some (some (.frz x), q.2)) (l.map g) σ) _ = _
  rw [hy]
  show some (T.olist _, (σ.set i y).set i none) = _
  rw [List.set_set]
theorem ev_compF {α : Type} {i : Nat} {it : It} {c : C} {elt : E} {σ : Sg} (l : List α) (g : α → D) (p : α → Bool) (hit : evi cf cn it σ = some (l.map g, σ)) (hl : l.length ≤ 1000)
    (hc : ∀ a, a ∈ l → ec cf cn c (σ.set i (some (.frz (g a)))) = some (p a, σ.set i (some (.frz (g a)))))
    (h : ∀ a, a ∈ l → ev cf cn elt (σ.set i (some (.frz (g a)))) = some (.frz (g a), σ.set i (some (.frz (g a))))) :
    ev cf cn (.comp i it (some c) elt) σ = some (.olist (((l.filter p).map g).map .frz), σ.set i none) := by
  obtain ⟨y, hy⟩ := compLoop_map (σ0 := σ) (i := i) (step := fun d σ => (ec cf cn c (σ.set i (some (.frz d)))).bind fun b => if b.1 then (ev cf cn elt b.2).bind fun q => (asD q.1).bind fun x => some (some (.frz x), q.2) else some (none, b.2)) l g (fun a => if p a = true then some (g a) else none)
    (fun a ha x => by
      rw [List.set_set, hc a ha, Option.bind_some]
      cases p a with
      | false => rfl
      | true =>
        refine (if_pos rfl).trans ?_
        rw [h a ha]; rfl) (σ[i]?.join)
  have hf : l.filterMap (fun a => if p a = true then some (g a) else none) = (l.filter p).map g := by
    rw [← List.filterMap_eq_map, ← List.filterMap_eq_filter, List.filterMap_filterMap]
    congr 1; funext a
    cases h : p a <;> simp [Option.guard, h]
  rw [← set_self, hf] at hy
  show (evi cf cn it σ).bind _ = _
  rw [hit]
  refine (if_neg (by rw [List.length_map]; lia)).trans ?_
  show Option.bind (compLoop (fun d σ => (ec cf cn c (σ.set i (some (.frz d)))).bind fun b => if b.1 then (ev cf cn elt b.2).bind fun q => (asD q.1).bind fun x => some (some (.frz x), q.2) else some (none, b.2)) (l.map g) σ) _ = _
  rw [hy]
  show some (T.olist _, (σ.set i y).set i none) = _
  rw [List.set_set]
theorem comp_ok (e : E) {n : Nat} {g : Nat → D} (f : Nat → D) (σ : Sg) (hl : n ≤ 1000) (fi : Tr) (fb : ∀ k, k < n → Tr)
    (ei : obs id (rI cf cn (cp e).2.1 σ) fi = some ((rg n g, σ), told' (rI cf cn (cp e).2.1 σ) fi) := by kernel_rfl)
    (eb : ∀ k (hk : k < n), obs id (rE cf cn (cp e).2.2.2 (σ.set (cp e).1 (some (.frz (g k))))) (fb k hk) = some ((.frz (f k), σ.set (cp e).1 (some (.frz (g k)))), told' (rE cf cn (cp e).2.2.2 (σ.set (cp e).1 (some (.frz (g k))))) (fb k hk)) := by intro k hk; kernel_rfl)
    (hs : e = .comp (cp e).1 (cp e).2.1 none (cp e).2.2.2 := by kernel_rfl) : ev cf cn e σ = some (ol n f, σ.set (cp e).1 none) := by
  have := ev_compL (cf := cf) (cn := cn) (i := (cp e).1) (it := (cp e).2.1) (elt := (cp e).2.2.2) (List.range n) g f (run_i fi ei) (by rw [List.length_range]; exact hl) (fun k hk => run_e (fb k (List.mem_range.1 hk)) (eb k (List.mem_range.1 hk)))
  rw [← hs] at this; exact this
end
end MineP.Internal
end
section
set_option maxRecDepth 10000
namespace MineP.Internal
open Mine.Internal
noncomputable def vD (m : Nat) (u : Nat → Rat) : D := fl m fun k => rD (u k)
noncomputable def wD (hv : Bool) (m : Nat) (w : Nat → Rat) : D := if hv then vD m w else .none
noncomputable def HV (m A : Nat) (u : Nat → Rat) : Prop := ∀ k, k < m → H A (u k)
noncomputable def itV {n k : Nat} (g : Nat → Rat) (hk : k < n) (hn : n ≤ 1000) : Option Fact := itF (fun k => rD (g k)) hk hn
noncomputable def lnV {n : Nat} (g : Nat → Rat) (hn : n ≤ 1000) : Option Fact := lnF (fun k => rD (g k)) hn
theorem le1000 {m : Nat} (h : m ≤ 5) : m ≤ 1000 := Nat.le_trans h (by decide)
theorem vD_congr {m : Nat} {u v : Nat → Rat} (h : ∀ k, k < m → u k = v k) : vD m u = vD m v := fl_congr fun k hk => by rw [h k hk]
section
variable {hv : Bool} {m A B C : Nat} {u v w : Nat → Rat} {f : Rat}
theorem weighted_ok (hm : m ≤ 1000) (hu : HV m A u) (hw : HV m 2 w) (h1 : hv = false → ∀ k, w k = 1) (hA : Room (A + 2)) :
    Rets 4 .f_weighted [.frz (vD m u), .frz (wD hv m w)] (.frz (vD m fun k => u k * w k)) := by
  cases hv with
  | false =>
    rw [vD_congr (u := fun k => u k * w k) (v := u) fun k _ => by rw [h1 rfl k, Rat.mul_one]]
    exact rets rfl fun n hn => []
  | true => exact rets rfl fun n hn => [
      qF (comp_ok (cf := callN n) (cn := newN n) (unz (xE (stm b_f_weighted 1))) (g := fun k => .int k) (fun k => rD (u k * w k)) [some (.frz (vD m u)), some (.frz (vD m w)), none] hm [lnV u hm, rgF hm] fun k hk => [itV u hk hm, itV w hk hm, mulF hn (hu k hk) (hw k hk) hA]),
      zoF m fun k => rD (u k * w k)]
theorem H_part {N n k A L : Nat} {f : Nat → Rat} (hn : n ≤ N + 1) (hk : k < n) (h : ∀ j, j < n → H A (f j)) (e : Nat.ble (N * (A + 1)) L = true) : H L (sm k f) :=
  (H_sm fun j hj => h j (Nat.lt_trans hj hk)).mono (Nat.le_trans (Nat.mul_le_mul_right _ (Nat.le_of_lt_succ (Nat.lt_of_lt_of_le hk hn))) (Nat.le_of_ble_eq_true e))
theorem H_all {N n A L : Nat} {f : Nat → Rat} (hn : n ≤ N) (h : ∀ j, j < n → H A (f j)) (e : Nat.ble (N * (A + 1)) L = true) : H L (sm n f) :=
  (H_sm h).mono (Nat.le_trans (Nat.mul_le_mul_right _ hn) (Nat.le_of_ble_eq_true e))
theorem sm_skip {k : Nat} {f : Nat → Rat} (h : f k = 0) : sm (k + 1) f = sm k f := by rw [sm, h, Rat.add_zero]
theorem num0 {x : Rat} (h : x = 0) : (rp x).1 = 0 := by rw [h]; rfl
theorem dot_ok (hm : m ≤ 5) (hu : HV m A u) (hv : HV m B v) (h : Nat.ble (4 * (A + B + 1) + (A + B) + 2) 134217728 = true) :
    Rets 4 .f_dot [.frz (vD m u), .frz (vD m v)] (.frz (rD (sm m fun k => u k * v k))) := by
  have hm' := le1000 hm
  have hM : ∀ k, k < m → H (A + B) (u k * v k) := fun k hk => H_mul (hu k hk) (hv k hk)
  have hR : ∀ k, k < m → Room (k * (A + B + 1) + (A + B)) := fun k hk => Nat.ble_eq_true_of_le (Nat.le_trans (Nat.add_le_add_right (Nat.add_le_add_right (Nat.mul_le_mul_right _ (Nat.le_of_lt_succ (Nat.lt_of_lt_of_le hk hm))) _) _) (Nat.le_of_ble_eq_true h))
  have hb : Room (A + B) := Nat.ble_eq_true_of_le (Nat.le_trans (by lia) (Nat.le_of_ble_eq_true h))
  refine rets rfl fun n hn => [sF (loop_by (cf := callN n) (cn := newN n) (stm b_f_dot 1) (n := m) (g := fun k => .int k) (fun k => [some (.frz (vD m u)), some (.frz (vD m v)), some (.frz (rD (sm k fun k => u k * v k))), none]) [lnV u hm', rgF hm'] fun k hk => ?_)]
  by_cases h1 : u k = 0
  · rw [sm_skip (f := fun k => u k * v k) (by rw [h1, Rat.zero_mul])]
    exact run_ss [itV u hk hm', ne0 (num0 h1)]
  · by_cases h2 : v k = 0
    · rw [sm_skip (f := fun k => u k * v k) (by rw [h2, Rat.mul_zero])]
      exact run_ss [itV u hk hm', ne1 (rp1 h1), itV v hk hm', ne0 (num0 h2)]
    · exact run_ss [itV u hk hm', ne1 (rp1 h1), itV v hk hm', ne1 (rp1 h2), itV u hk hm', itV v hk hm', mulF hn (hu k hk) (hv k hk) hb, addF hn (H_sm fun j hj => hM j (Nat.lt_trans hj hk)) (hM k hk) (hR k hk)]
theorem H_dot (hm : m ≤ 5) (hu : HV m A u) (hv : HV m B v) : H (5 * (A + B + 1)) (sm m fun k => u k * v k) :=
  (H_sm fun k hk => H_mul (hu k hk) (hv k hk)).mono (Nat.mul_le_mul_right _ hm)
theorem less_multiple_ok (hm : m ≤ 1000) (hu : HV m A u) (hv : HV m B v) (hf : H C f) (h : Room (A + (C + B))) :
    Rets 5 .f_less_multiple [.frz (vD m u), .frz (rD f), .frz (vD m v)] (.frz (vD m fun k => u k - f * v k)) := by
  have hc : Room (C + B) := Nat.ble_eq_true_of_le (Nat.le_trans (by lia) (Nat.le_of_ble_eq_true h))
  by_cases h0 : f = 0
  · rw [vD_congr (u := fun k => u k - f * v k) (v := u) fun k _ => by rw [h0]; grind]
    exact rets rfl fun n hn => [eq1 (num0 h0)]
  · exact rets rfl fun n hn => [eq0 (rp1 h0),
      qF (comp_ok (cf := callN n) (cn := newN n) (unz (xE (stm b_f_less_multiple 1))) (g := fun k => .int k) (fun k => rD (u k - f * v k)) [some (.frz (vD m u)), some (.frz (rD f)), some (.frz (vD m v)), none] hm [lnV u hm, rgF hm] fun k hk =>
        [itV u hk hm, itV v hk hm, mulF hn hf (hv k hk) hc, subF hn (hu k hk) (H_mul hf (hv k hk)) h]),
      zoF m fun k => rD (u k - f * v k)]
theorem HV_less (hu : HV m A u) (hv : HV m B v) (hf : H C f) : HV m (A + (C + B) + 1) fun k => u k - f * v k :=
  fun k hk => H_sub (hu k hk) (H_mul hf (hv k hk))
theorem check_finite_ok (s : String) : Rets 2 .f_check_finite [.frz (vD m u), .frz (.str s)] (.frz .none) :=
  rets rfl fun n hn => [sF (loop_ok (cf := callN n) (cn := newN n) (stm b_f_check_finite 0) (n := m) (g := fun k => rD (u k)) (fun _ => [some (.frz (vD m u)), some (.frz (.str s)), none]) [] fun k hk => [cF hn (is_finite_ok (u k)) rfl])]
theorem num_pos {a : Rat} (h : 0 < a) : 0 < (rp a).1 := Rat.intCast_pos.mp h
theorem check_weights_ok (hm : m ≤ 1000) (hu : ∀ k, k < m → 0 < u k) : Rets 2 .f_check_weights [.frz (vD m u), .frz (.int m)] (.frz .none) :=
  rets rfl fun n hn => [lnV u hm, ne0 (Eq.refl (m : Int)), sF (loop_ok (cf := callN n) (cn := newN n) (stm b_f_check_weights 1) (n := m) (g := fun k => rD (u k)) (fun _ => [some (.frz (vD m u)), some (.frz (.int m)), none]) [] fun k hk => [cF hn (is_finite_ok (u k)) rfl, lt0 (Int.not_lt.2 (Int.le_of_lt (num_pos (hu k hk))))])]
theorem used_rows_ok (hm : m ≤ 1000) (hw : ∀ k, k < m → 0 < w k) : Rets 1 .f_used_rows [.frz (.int m), .frz (wD hv m w)] (.frz (.int m)) := by
  cases hv with
  | false => exact rets rfl fun n hn => []
  | true =>
    refine rets rfl fun n hn => [qF (?_ : ev (callN n) (newN n) (.comp 2 (.ex (.pu (.var 1))) (some (.pu .ne (.op .item [(.var 2), (.cst (.int 0))]) (.cst (.int 0)))) (.pu (.var 2))) [some (.frz (.int m)), some (.frz (vD m w)), none] = some (ol m fun k => rD (w k), [some (.frz (.int m)), some (.frz (vD m w)), none])), zoF m fun k => rD (w k), lnV w hm]
    have := ev_compF (cf := callN n) (cn := newN n) (i := 2) (it := .ex (.pu (.var 1))) (c := .pu .ne (.op .item [(.var 2), (.cst (.int 0))]) (.cst (.int 0))) (elt := .pu (.var 2)) (σ := [some (.frz (.int m)), some (.frz (vD m w)), none])
      (List.range m) (fun k => rD (w k)) (fun _ => true) (run_i []) (by rw [List.length_range]; exact hm) (fun k hk => run_c [ne1 (Int.ne_of_gt (num_pos (hw k (List.mem_range.1 hk))))]) (fun k hk => run_e [])
    rw [List.filter_eq_self.2 (fun _ _ => rfl)] at this
    exact this
end
end MineP.Internal
end
section
set_option maxRecDepth 10000
set_option genSizeOf false
set_option genInjectivity false
namespace MineP.Internal
open Mine.Internal
noncomputable def upd {α : Type} (f : Nat → α) (n : Nat) (x : α) : Nat → α := fun k => if k = n then x else f k
theorem upd_same {α : Type} (f : Nat → α) (n : Nat) (x : α) : upd f n x n = x := if_pos rfl
theorem upd_ne {α : Type} {f : Nat → α} {n : Nat} {x : α} {k : Nat} (h : k ≠ n) : upd f n x k = f k := if_neg h
theorem upd_lt {α : Type} {f : Nat → α} {n : Nat} {x : α} {k : Nat} (h : k < n) : upd f n x k = f k := upd_ne (Nat.ne_of_lt h)
theorem upd_gt {α : Type} {f : Nat → α} {n : Nat} {x : α} {k : Nat} (h : n < k) : upd f n x k = f k := upd_ne (Nat.ne_of_gt h)
section
variable {m : Nat} {w : Nat → Rat}
theorem sm_add (n : Nat) (f g : Nat → Rat) : sm n (fun k => f k + g k) = sm n f + sm n g := by
  induction n with
  | zero => simp only [sm]; grind
  | succ n ih => simp only [sm, ih]; grind
theorem sm_mul (n : Nat) (c : Rat) (f : Nat → Rat) : sm n (fun k => c * f k) = c * sm n f := by
  induction n with
  | zero => simp only [sm]; grind
  | succ n ih => simp only [sm, ih]; grind
theorem sm_zero {n : Nat} {f : Nat → Rat} (h : ∀ k, k < n → f k = 0) : sm n f = 0 := by
  induction n with
  | zero => rfl
  | succ n ih => rw [sm, ih fun k hk => h k (Nat.lt_succ_of_lt hk), h n (Nat.lt_succ_self n), Rat.add_zero]
noncomputable def ip (m : Nat) (w u v : Nat → Rat) : Rat := sm m fun k => u k * w k * v k
theorem ip_comm (u v : Nat → Rat) : ip m w u v = ip m w v u := sm_congr fun k _ => by grind
theorem ip_less (u v x : Nat → Rat) (f : Rat) : ip m w (fun k => u k - f * v k) x = ip m w u x - f * ip m w v x := by
  unfold ip
  have : ∀ k, k < m → (u k - f * v k) * w k * x k = u k * w k * x k + (-f) * (v k * w k * x k) := fun k _ => by grind
  rw [sm_congr this, sm_add, sm_mul]; grind
theorem ip_congr {u u' v v' : Nat → Rat} (h : ∀ k, k < m → u k = u' k) (h' : ∀ k, k < m → v k = v' k) : ip m w u v = ip m w u' v' :=
  sm_congr fun k hk => by rw [h k hk, h' k hk]
theorem H_ip {A B L : Nat} {u v : Nat → Rat} (hm : m ≤ 5) (hu : HV m A u) (hv : HV m B v) (hw : HV m 2 w) (e : Nat.ble (5 * (A + 2 + B + 1)) L = true := by exact rfl) : H L (ip m w u v) :=
  (H_dot hm (fun k hk => H_mul (hu k hk) (hw k hk)) hv).up e
end
noncomputable def gh : Nat → Nat
  | 0 => 3
  | t + 1 => 22 * gh t + 31
noncomputable def nh (t : Nat) : Nat := 5 * (gh t + 2 + gh t + 1)
theorem gh_mono {a b : Nat} (h : a ≤ b) : gh a ≤ gh b := by
  induction h with
  | refl => exact Nat.le_refl _
  | step h ih => simp only [gh]; lia
theorem nh_mono {a b : Nat} (h : a ≤ b) : 2 * nh a ≤ 2 * nh b := by
  have := gh_mono h
  unfold nh; lia
theorem HV.up {m A B : Nat} {u : Nat → Rat} (h : HV m A u) (e : Nat.ble A B = true) : HV m B u := fun k hk => (h k hk).up e
theorem HV.mono {m A B : Nat} {u : Nat → Rat} (h : HV m A u) (e : A ≤ B) : HV m B u := fun k hk => (h k hk).mono e
noncomputable def us (m : Nat) (w : Nat → Rat) (b : Nat → Nat → Rat) (N x : Nat → Rat) : Nat → Nat → Rat
  | 0 => x
  | t + 1 => fun k => us m w b N x t k - (ip m w (us m w b N x t) (b t) / N t) * b t k
noncomputable def fs (m : Nat) (w : Nat → Rat) (b : Nat → Nat → Rat) (N x : Nat → Rat) (i : Nat) : Rat := ip m w (us m w b N x i) (b i) / N i
structure OS where
  r : Nat
  p : Nat → Nat
  b : Nat → Nat → Rat
  N : Nat → Rat
  s : Nat → Nat → Rat
noncomputable def OS.u (m : Nat) (w : Nat → Rat) (O : OS) (x : Nat → Rat) : Nat → Rat := us m w O.b O.N x O.r
noncomputable def OS.f (m : Nat) (w : Nat → Rat) (O : OS) (x : Nat → Rat) : Nat → Rat := fs m w O.b O.N x
noncomputable def OS.push (m : Nat) (w : Nat → Rat) (O : OS) (x : Nat → Rat) (j : Nat) : OS :=
  ⟨O.r + 1, upd O.p O.r j, upd O.b O.r (O.u m w x), upd O.N O.r (ip m w (O.u m w x) (O.u m w x)), upd O.s O.r (O.f m w x)⟩
noncomputable def os (m : Nat) (w : Nat → Rat) (X : Nat → Nat → Rat) : Nat → OS
  | 0 => ⟨0, fun _ => 0, fun _ _ => 0, fun _ => 0, fun _ _ => 0⟩
  | j + 1 => if ip m w ((os m w X j).u m w (X j)) ((os m w X j).u m w (X j)) = 0 then os m w X j else (os m w X j).push m w (X j) j
structure GS (m : Nat) (w : Nat → Rat) (X : Nat → Nat → Rat) (j : Nat) (O : OS) : Prop where
  rj : O.r ≤ j
  pj : ∀ i, i < O.r → O.p i < j
  pm : ∀ i k, i < k → k < O.r → O.p i < O.p k
  eq : ∀ i, i < O.r → ∀ k, k < m → X (O.p i) k = O.b i k + sm i fun t => O.s i t * O.b t k
  nn : ∀ i, i < O.r → O.N i = ip m w (O.b i) (O.b i)
  n0 : ∀ i, i < O.r → O.N i ≠ 0
  orth : ∀ i t, i < O.r → t < O.r → i ≠ t → ip m w (O.b i) (O.b t) = 0
  hb : ∀ i, i < O.r → HV m (gh i) (O.b i)
  hs : ∀ i t, i < O.r → t < i → H (2 * nh t) (O.s i t)
  first : 0 < j → ip m w (X 0) (X 0) ≠ 0 → 0 < O.r ∧ O.p 0 = 0
structure TS (m : Nat) (w : Nat → Rat) (O : OS) (x : Nat → Rat) (t : Nat) (u f : Nat → Rat) : Prop where
  eq : ∀ k, k < m → x k = u k + sm t fun i => f i * O.b i k
  orth : ∀ i, i < t → ip m w u (O.b i) = 0
  hu : HV m (gh t) u
  hf : ∀ i, i < t → H (2 * nh i) (f i)
section
variable {m : Nat} {w : Nat → Rat} {X : Nat → Nat → Rat} {j : Nat} {O : OS} {x : Nat → Rat}
theorem GS.hN (hm : m ≤ 5) (hw : HV m 2 w) (G : GS m w X j O) {t : Nat} (ht : t < O.r) : H (nh t) (O.N t) := by
  rw [G.nn t ht]; exact H_dot hm (fun k hk => H_mul (G.hb t ht k hk) (hw k hk)) (G.hb t ht)
theorem TS.all (hm : m ≤ 5) (hw : HV m 2 w) (G : GS m w X j O) (hx : HV m 3 x) : ∀ {t : Nat}, t ≤ O.r → TS m w O x t (us m w O.b O.N x t) (fs m w O.b O.N x)
  | 0, _ => ⟨fun k hk => (Rat.add_zero _).symm, fun i hi => absurd hi (Nat.not_lt_zero i), hx, fun i hi => absurd hi (Nat.not_lt_zero i)⟩
  | t + 1, ht => by
    have S := TS.all hm hw G hx (Nat.le_of_lt ht)
    have hF : H (2 * nh t) (fs m w O.b O.N x t) := (H_div (H_dot hm (fun k hk => H_mul (S.hu k hk) (hw k hk)) (G.hb t ht)) (G.hN hm hw ht)).mono (by unfold nh; lia)
    refine ⟨fun k hk => ?_, fun i hi => ?_, ?_, fun i hi => ?_⟩
    · rw [S.eq k hk, sm]
      show _ = us m w O.b O.N x t k - fs m w O.b O.N x t * O.b t k + _
      grind
    · show ip m w (fun k => us m w O.b O.N x t k - _ * O.b t k) _ = 0
      rw [ip_less]
      rcases Nat.lt_succ_iff_lt_or_eq.1 hi with h | rfl
      · rw [S.orth i h, G.orth t i ht (Nat.lt_trans h ht) (Nat.ne_of_gt h), Rat.mul_zero]; grind
      · rw [← G.nn i ht]
        have := G.n0 i ht
        grind
    · refine (HV_less S.hu (G.hb t ht) hF).mono ?_
      simp only [gh, nh]; lia
    · rcases Nat.lt_succ_iff_lt_or_eq.1 hi with h | rfl
      · exact S.hf i h
      · exact hF
theorem GS.skip (G : GS m w X j O) (S : TS m w O (X j) O.r (O.u m w (X j)) (O.f m w (X j))) (h0 : ip m w (O.u m w (X j)) (O.u m w (X j)) = 0) : GS m w X (j + 1) O := by
  refine ⟨Nat.le_succ_of_le G.rj, fun i hi => Nat.lt_succ_of_lt (G.pj i hi), G.pm, G.eq, G.nn, G.n0, G.orth, G.hb, G.hs, ?_⟩
  intro _ hn
  rcases Nat.eq_zero_or_pos j with rfl | hj
  · have hr : O.r = 0 := Nat.le_zero.1 G.rj
    have : ip m w (X 0) (X 0) = ip m w (O.u m w (X 0)) (O.u m w (X 0)) := by
      have hq : ∀ k, k < m → X 0 k = O.u m w (X 0) k := fun k hk => by rw [S.eq k hk, hr, sm, Rat.add_zero]
      exact ip_congr hq hq
    exact absurd h0 (by rw [← this]; exact hn)
  · exact G.first hj hn
theorem GS.push (G : GS m w X j O) (S : TS m w O (X j) O.r (O.u m w (X j)) (O.f m w (X j))) (h0 : ip m w (O.u m w (X j)) (O.u m w (X j)) ≠ 0) : GS m w X (j + 1) (O.push m w (X j) j) := by
  have cs : ∀ {i}, i < O.r + 1 → i < O.r ∨ i = O.r := fun h => Nat.lt_succ_iff_lt_or_eq.1 h
  refine ⟨Nat.succ_le_succ G.rj, fun i hi => ?_, fun i k hik hk => ?_, fun i hi k hk => ?_, fun i hi => ?_, fun i hi => ?_, fun i t hi ht hne => ?_, fun i hi => ?_, fun i t hi ht => ?_, fun _ hn => ?_⟩
  · show upd O.p O.r j i < j + 1
    rcases cs hi with h | rfl
    · rw [upd_lt h]; exact Nat.lt_succ_of_lt (G.pj i h)
    · rw [upd_same]; exact Nat.lt_succ_self j
  · show upd O.p O.r j i < upd O.p O.r j k
    rcases cs hk with h | rfl
    · rw [upd_lt h, upd_lt (Nat.lt_trans hik h)]; exact G.pm i k hik h
    · rw [upd_same, upd_lt hik]; exact G.pj i hik
  · show X (upd O.p O.r j i) k = upd O.b O.r _ i k + sm i fun t => upd O.s O.r _ i t * upd O.b O.r _ t k
    rcases cs hi with h | rfl
    · rw [upd_lt h, upd_lt h, upd_lt h, G.eq i h k hk]
      congr 1
      exact sm_congr fun t ht => by rw [upd_lt (Nat.lt_trans ht h)]
    · rw [upd_same, upd_same, upd_same, S.eq k hk]
      congr 1
      exact sm_congr fun t ht => by rw [upd_lt ht]
  · show upd O.N O.r _ i = ip m w (upd O.b O.r _ i) (upd O.b O.r _ i)
    rcases cs hi with h | rfl
    · rw [upd_lt h, upd_lt h]; exact G.nn i h
    · rw [upd_same, upd_same]
  · show upd O.N O.r _ i ≠ 0
    rcases cs hi with h | rfl
    · rw [upd_lt h]; exact G.n0 i h
    · rw [upd_same]; exact h0
  · show ip m w (upd O.b O.r _ i) (upd O.b O.r _ t) = 0
    rcases cs hi with h | rfl
    · rw [upd_lt h]
      rcases cs ht with h' | rfl
      · rw [upd_lt h']; exact G.orth i t h h' hne
      · rw [upd_same, ip_comm]; exact S.orth i h
    · rw [upd_same]
      rcases cs ht with h' | rfl
      · rw [upd_lt h']; exact S.orth t h'
      · exact absurd rfl hne
  · show HV m (gh i) (upd O.b O.r _ i)
    rcases cs hi with h | rfl
    · rw [upd_lt h]; exact G.hb i h
    · rw [upd_same]; exact S.hu
  · show H (2 * nh t) (upd O.s O.r _ i t)
    rcases cs hi with h | rfl
    · rw [upd_lt h]; exact G.hs i t h ht
    · rw [upd_same]; exact S.hf t ht
  · show 0 < O.r + 1 ∧ upd O.p O.r j 0 = 0
    refine ⟨Nat.succ_pos _, ?_⟩
    rcases Nat.eq_zero_or_pos j with rfl | hj
    · rw [Nat.le_zero.1 G.rj, upd_same]
    · have := G.first hj hn
      rw [upd_lt this.1]; exact this.2
theorem os_zero (h : ip m w ((os m w X j).u m w (X j)) ((os m w X j).u m w (X j)) = 0) : os m w X (j + 1) = os m w X j := if_pos h
theorem os_push (h : ¬ ip m w ((os m w X j).u m w (X j)) ((os m w X j).u m w (X j)) = 0) : os m w X (j + 1) = (os m w X j).push m w (X j) j := if_neg h
theorem GS.all (hm : m ≤ 5) (hw : HV m 2 w) {c : Nat} (hX : ∀ j, j < c → HV m 3 (X j)) : ∀ {j : Nat}, j ≤ c → GS m w X j (os m w X j)
  | 0, _ => by
    have no : ∀ {i : Nat} {P : Prop}, i < 0 → P := fun h => absurd h (Nat.not_lt_zero _)
    exact ⟨Nat.le_refl _, fun i h => no h, fun i k h h' => no h', fun i h => no h, fun i h => no h, fun i h => no h, fun i k h => no h, fun i h => no h, fun i k h => no h, fun h => no h⟩
  | j + 1, h => by
    have G := GS.all hm hw hX (Nat.le_of_lt h)
    have S := TS.all hm hw G (hX j h) (Nat.le_refl _)
    by_cases h0 : ip m w ((os m w X j).u m w (X j)) ((os m w X j).u m w (X j)) = 0
    · rw [os_zero h0]; exact G.skip S h0
    · rw [os_push h0]; exact G.push S h0
theorem GS.b3 (G : GS m w X j O) {t : Nat} (ht : t < O.r) (hr : O.r ≤ 4) : HV m 47661 (O.b t) := (G.hb t ht).mono (gh_mono (show t ≤ 3 by lia))
theorem GS.N3 (hm : m ≤ 5) (hw : HV m 2 w) (G : GS m w X j O) {t : Nat} (ht : t < O.r) (hr : O.r ≤ 4) : H 476625 (O.N t) := by
  rw [G.nn t ht]; exact H_ip hm (G.b3 ht hr) (G.b3 ht hr) hw
theorem TS.u3 {u f : Nat → Rat} {t : Nat} (S : TS m w O x t u f) (ht : t ≤ 3) : HV m 47661 u := S.hu.mono (gh_mono ht)
theorem TS.u4 {u f : Nat → Rat} {t : Nat} (S : TS m w O x t u f) (ht : t ≤ 4) : HV m 1048573 u := S.hu.mono (gh_mono ht)
theorem TS.f3 {u f : Nat → Rat} {t i : Nat} (S : TS m w O x t u f) (hi : i < t) (ht : t ≤ 4) : H 953250 (f i) := (S.hf i hi).mono (nh_mono (show i ≤ 3 by lia))
theorem GS.s2 (G : GS m w X j O) (hr : O.r ≤ 4) {i t : Nat} (hi : i < O.r) (ht : t < i) : H 43330 (O.s i t) := (G.hs i t hi ht).mono (nh_mono (show t ≤ 2 by lia))
end
end MineP.Internal
end
section
set_option maxRecDepth 10000
namespace MineP.Internal
open Mine.Internal
noncomputable def fitO (m : Nat) (O : OS) (st co fi re we rk df : T) : T := .oinst .fit [("pivots", ol O.r fun i => .int (O.p i)), ("bases", ol O.r fun i => vD m (O.b i)), ("norms", ol O.r fun i => rD (O.N i)), ("shares", ol O.r fun i => vD i (O.s i)), ("steps", st), ("coefficients", co), ("fitted", fi), ("residuals", re), ("weights", we), ("rank", rk), ("df", df)]
noncomputable def nl : T := .olist []
noncomputable def fitG (m : Nat) (O : OS) (rk : Int) : T := fitO m O nl nl nl nl (.frz .none) (.frz (.int rk)) (.frz (.int 0))
noncomputable def mD (c m : Nat) (X : Nat → Nat → Rat) : D := fl c fun j => vD m (X j)
theorem new_fit {n : Nat} (hn : 1 ≤ n) : newN n .fit [nl, nl, nl, nl] = some Mine.Internal.fitT := by
  obtain ⟨k, rfl⟩ : ∃ k, n = k + 1 := ⟨n - 1, by lia⟩
  rw [newN]; rfl
theorem append_upd {α : Type} {n : Nat} (F : Nat → α → D) (p : Nat → α) (v : α) (hn : n ≤ 1000) : appendT (.frz (F n v)) (ol n fun i => F i (p i)) = some (ol (n + 1) fun i => F i (upd p n v i)) := by
  rw [ol_congr (f := fun i => F i (p i)) (g := fun i => F i (upd p n v i)) fun k hk => by rw [upd_lt hk]]
  exact append_ol _ hn (by rw [upd_same])
noncomputable def auF {α : Type} {n : Nat} (F : Nat → α → D) (p : Nat → α) (v : α) (hn : n ≤ 1000) : Option Fact := tF (append_upd F p v hn)
noncomputable def lnO {n : Nat} (g : Nat → D) (hn : n ≤ 1000) : Option Fact := tF (len_olist (l := (rg n g).map .frz) (n := n) (by rw [List.length_map, rg_length]) hn)
theorem Le.t {a b : Nat} (h : a ≤ b) (e : Nat.ble b 1000 = true) : a ≤ 1000 := Nat.le_trans h (Nat.le_of_ble_eq_true e)
section
variable {hv : Bool} {c m : Nat} {X : Nat → Nat → Rat} {w : Nat → Rat}
theorem orthogonal_ok (hm : m ≤ 5) (hc : c ≤ 4) (hX : ∀ j, j < c → HV m 3 (X j)) (hw : HV m 2 w) (h1 : hv = false → ∀ k, w k = 1) :
    Rets 6 .f_orthogonal [.frz (mD c m X), .frz (wD hv m w)] (fitG m (os m w X c) (os m w X c).r) := by
  have hm' := le1000 hm
  have hc' : c ≤ 1000 := Le.t hc rfl
  refine rets rfl fun n hn => [tF (new_fit (Nat.le_trans (by decide) hn)),
    sF (loop_by (cf := callN n) (cn := newN n) (stm b_f_orthogonal 1) (n := c) (g := fun k => .int k) (fun j => [some (.frz (mD c m X)), some (.frz (wD hv m w)), some (fitG m (os m w X j) 0), none, none, none, none, none, none]) [lnF (fun j => vD m (X j)) hc', rgF hc'] fun j hj => ?_),
    lnO (fun i => .int ((os m w X c).p i)) (Le.t (Nat.le_trans (GS.all hm hw hX (Nat.le_refl c)).rj hc) rfl)]
  have G := GS.all hm hw hX (Nat.le_of_lt hj)
  have S := fun t (ht : t ≤ (os m w X j).r) => TS.all hm hw G (hX j hj) ht
  generalize hO : os m w X j = O at G S
  have hr : O.r ≤ 3 := Nat.le_trans G.rj (Nat.le_of_lt_succ (Nat.lt_of_lt_of_le hj hc))
  have hr4 : O.r ≤ 4 := Nat.le_succ_of_le hr
  have hr' : O.r ≤ 1000 := Le.t hr rfl
  have hu := (S O.r (Nat.le_refl _)).u3 hr
  have hd : Option Fact := none
  let fx : Tr := [itF (fun j => vD m (X j)) hj hc', cgF (fun k => rD (X j k)) hm', zoF m fun k => rD (X j k),
    sF (loop_ok (cf := callN n) (cn := newN n) (stm (lp (stm b_f_orthogonal 1)).2.2 2) (n := O.r) (g := fun k => .int k) (fun t => [some (.frz (mD c m X)), some (.frz (wD hv m w)), some (fitG m O 0), some (.frz (.int j)), some (.frz (vD m (us m w O.b O.N (X j) t))), some (ol t fun i => rD (O.f m w (X j) i)), none, none, none])
      [lnO (fun i => vD m (O.b i)) hr', rgF hr'] fun t ht =>
      have hu := (S t (Nat.le_of_lt ht)).u3 (Nat.le_trans (Nat.le_of_lt ht) hr)
      have hb := G.b3 ht hr4
      have hI : H 476625 (ip m w (us m w O.b O.N (X j) t) (O.b t)) := H_ip hm hu hb hw
      have hN := G.N3 hm hw ht hr4
      [cF hn (weighted_ok (hv := hv) hm' hu hw h1 rfl) rfl, itO (fun i => vD m (O.b i)) ht hr', cF hn (dot_ok hm (fun k hk => H_mul (hu k hk) (hw k hk)) hb rfl) rfl, itO (fun i => rD (O.N i)) ht hr', divF hn hI hN (G.n0 t ht),
        apF (fun i => rD (O.f m w (X j) i)) (Nat.le_trans (Nat.le_of_lt ht) hr'), itO (fun i => vD m (O.b i)) ht hr', cF hn (less_multiple_ok hm' hu hb (H_div hI hN) rfl) rfl]),
    cF hn (weighted_ok (hv := hv) hm' hu hw h1 rfl) rfl, cF hn (dot_ok hm (fun k hk => H_mul (hu k hk) (hw k hk)) hu rfl) rfl]
  by_cases h0 : ip m w (O.u m w (X j)) (O.u m w (X j)) = 0
  · rw [os_zero (by rw [hO]; exact h0), hO]
    exact run_ss (fx ++ [ne0 (num0 h0)])
  · rw [os_push (by rw [hO]; exact h0), hO]
    exact run_ss (fx ++ [ne1 (rp1 h0), auF (fun _ i => .int (i : Nat)) O.p j hr', auF (fun _ u => vD m u) O.b (O.u m w (X j)) hr', auF (fun _ x => rD x) O.N (ip m w (O.u m w (X j)) (O.u m w (X j))) hr', zoF O.r (fun i => rD (O.f m w (X j) i)), auF (fun i s => vD i s) O.s (O.f m w (X j)) hr'])
end
end MineP.Internal
end
section
set_option maxRecDepth 10000
namespace MineP.Internal
open Mine.Internal
theorem ol_upd {α : Type} {n : Nat} (F : α → D) (p : Nat → α) (k : Nat) (v : α) : (ol n fun i => if i = k then F v else F (p i)) = ol n fun i => F (upd p k v i) :=
  ol_congr fun i _ => by
    show _ = F (if i = k then v else p i)
    split <;> rfl
theorem store_upd {α : Type} {n k : Nat} (F : α → D) (p : Nat → α) (v : α) (hk : k < n) (hn : n ≤ 1000) : storeI (.frz (F v)) (.frz (.int k)) (ol n fun i => F (p i)) = some (ol n fun i => F (upd p k v i)) := by
  rw [store_ol hk hn, ol_upd]
theorem upd_upd {α : Type} (p : Nat → α) (k : Nat) (u v : α) : upd (upd p k u) k v = upd p k v := by
  funext i
  by_cases h : i = k
  · subst h; rw [upd_same, upd_same]
  · rw [upd_ne h, upd_ne h, upd_ne h]
theorem store_upd2 {α : Type} {n k : Nat} (F : α → D) (p : Nat → α) (u v : α) (hk : k < n) (hn : n ≤ 1000) : storeI (.frz (F v)) (.frz (.int k)) (ol n fun i => F (upd p k u i)) = some (ol n fun i => F (upd p k v i)) := by
  rw [store_upd F (upd p k u) v hk hn, upd_upd]
noncomputable def suF {α : Type} {n k : Nat} (F : α → D) (p : Nat → α) (v : α) (hk : k < n) (hn : n ≤ 1000) : Option Fact := tF (store_upd F p v hk hn)
noncomputable def suF2 {α : Type} {n k : Nat} (F : α → D) (p : Nat → α) (u v : α) (hk : k < n) (hn : n ≤ 1000) : Option Fact := tF (store_upd2 F p u v hk hn)
noncomputable def itE {n k : Nat} {d : D} (g : Nat → D) (hk : k < n) (hn : n ≤ 1000) (h : g k = d) : Option Fact := tF (h ▸ item_ol g hk hn)
noncomputable def subE {A B d n : Nat} {x y z : Rat} (hn : d ≤ n) (hx : H A x) (hy : H B y) (h : x - y = z) (hr : Room (A + B) := by exact rfl) (e : Nat.ble 4 d = true := by exact rfl) : Option Fact := cF hn (h ▸ sub_ok hx hy hr) e
theorem loop_from {cf : Cf} {cn : Cn} {s : S} {σ σ0 : Sg} {r : Fl} (h : σ0 = σ) (e : xs cf cn s σ0 = some r) : xs cf cn s σ = some r := h ▸ e
theorem ev_lcopyP {cf : Cf} {cn : Cn} {p : P} {σ : Sg} {n : Nat} (g : Nat → D) (h : pv σ p = some (ol n g)) (hn : n ≤ 1000) : ev cf cn (.lcopyP p) σ = some (ol n g, σ) := by
  show (pv σ p).bind _ = _
  rw [h]
  show (allD ((rg n g).map T.frz)).bind _ = _
  rw [allD_frz]
  exact if_pos (by rw [rg_length]; exact hn)
noncomputable def bi (s : Nat → Nat → Rat) (v : Nat → Rat) (k t : Nat) : Rat := v k - sm t fun t => s (k + 1 + t) k * v (k + 1 + t)
noncomputable def bv (r : Nat) (s : Nat → Nat → Rat) (st : Nat → Rat) : Nat → Nat → Rat
  | 0 => st
  | i + 1 => upd (bv r s st i) (r - 1 - i) (bi s (bv r s st i) (r - 1 - i) (r - (r - 1 - i + 1)))
noncomputable def vh : Nat → Nat
  | 0 => 953250
  | i + 1 => 953250 + i * (953250 + vh i + 1) + 1
theorem vh_le : ∀ {i : Nat}, vh i ≤ vh (i + 1)
  | 0 => by decide
  | i + 1 => Nat.succ_le_succ (Nat.add_le_add_left (Nat.mul_le_mul (show i ≤ i + 1 from Nat.le_succ i) (Nat.succ_le_succ (Nat.add_le_add_left (vh_le (i := i)) _))) _)
theorem vh_mono {a b : Nat} (h : a ≤ b) : vh a ≤ vh b := by
  induction h with
  | refl => exact Nat.le_refl _
  | step h i => exact Nat.le_trans i vh_le
section
variable {r : Nat} {s : Nat → Nat → Rat} {st : Nat → Rat}
theorem tr1 {r k i : Nat} (e : k + 1 + i = r) : k < r := e ▸ Nat.lt_of_lt_of_le (Nat.lt_succ_self k) (Nat.le_add_right _ _)
theorem tr2 {r k i t : Nat} (e : k + 1 + i = r) (h : t < i) : k + 1 + t < r := e ▸ Nat.add_lt_add_left h _
theorem tr3 (k t : Nat) : k < k + 1 + t := Nat.lt_of_lt_of_le (Nat.lt_succ_self k) (Nat.le_add_right _ _)
theorem tr4 {r k i : Nat} (e : k + 1 + i = r) : r - (k + 1) = i := by rw [← e, Nat.add_sub_cancel_left]
theorem tr5 {r k i : Nat} (e : k + 1 + i = r) : r - 1 - i = k := by rw [← e, Nat.add_right_comm, Nat.add_sub_cancel, Nat.add_sub_cancel]
theorem tr6 {r i : Nat} (h : i < r) : ∃ k, k + 1 + i = r := ⟨r - 1 - i, by omega⟩
theorem bv_ok (hs : ∀ i t, i < r → t < i → H 953250 (s i t)) (hst : ∀ i, i < r → H 953250 (st i)) : ∀ {i : Nat}, i ≤ r → (∀ k, k + i < r → bv r s st i k = st k) ∧ ∀ k, k < r → H (vh i) (bv r s st i k)
  | 0, _ => ⟨fun _ _ => rfl, hst⟩
  | i + 1, hi => by
    obtain ⟨h1, h2⟩ := bv_ok hs hst (Nat.le_of_lt hi)
    obtain ⟨k, e⟩ := tr6 hi
    have e1 : bv r s st (i + 1) = upd (bv r s st i) k (bi s (bv r s st i) k i) := by rw [bv, tr5 e, tr4 e]
    have hk : bv r s st i k = st k := h1 k (Nat.lt_of_lt_of_eq (Nat.add_lt_add_right (Nat.lt_succ_self k) i) e)
    rw [e1]
    refine ⟨fun j hj => ?_, fun j hj => ?_⟩
    · have hjk : j < k := by
        rw [← e, ← Nat.add_assoc, Nat.add_right_comm k] at hj
        exact Nat.lt_of_add_lt_add_right (Nat.lt_of_succ_lt_succ hj)
      rw [upd_lt hjk]; exact h1 j (Nat.lt_of_succ_lt hj)
    · by_cases h : j = k
      · rw [h, upd_same, bi, hk]
        exact H_sub (hst k (tr1 e)) (H_sm fun t ht => H_mul (hs _ _ (tr2 e ht) (tr3 k t)) (h2 _ (tr2 e ht)))
      · rw [upd_ne h]; exact (h2 j hj).mono vh_le
theorem back_ok {m : Nat} {O : OS} {st : Nat → Rat} {co fi re we df : T} (hr : O.r ≤ 4)
    (hs : ∀ i t, i < O.r → t < i → H 953250 (O.s i t)) (hst : ∀ i, i < O.r → H 953250 (st i)) {n : Nat} (hn : 5 ≤ n) :
    callN n .f_back_coefficients [fitO m O (ol O.r fun i => rD (st i)) co fi re we (.frz (.int O.r)) df] = some (.frz (vD O.r (bv O.r O.s st O.r)), [some (fitO m O (ol O.r fun i => rD (st i)) co fi re we (.frz (.int O.r)) df), some (.frz (vD O.r (bv O.r O.s st O.r))), none, none]) := by
  have hr' : O.r ≤ 1000 := Le.t hr rfl
  refine retsS rfl hn fun n hn => [
    qF (ev_lcopyP (cf := callN n) (cn := newN n) (p := .op (.attr "steps") [(.var 0)]) (σ := [some (fitO m O (ol O.r fun i => rD (st i)) co fi re we (.frz (.int O.r)) df), none, none, none]) (fun i => rD (st i)) rfl hr'),
    sF (loop_by (cf := callN n) (cn := newN n) (stm b_f_back_coefficients 1) (n := O.r) (g := fun i => .int ((O.r - 1 - i : Nat) : Int)) (fun i => [some (fitO m O (ol O.r fun i => rD (st i)) co fi re we (.frz (.int O.r)) df), some (ol O.r fun j => rD (bv O.r O.s st i j)), none, none]) [lF (rangeD (n := O.r) rfl hr')] fun i hi => ?_),
    zoF O.r fun j => rD (bv O.r O.s st O.r j)]
  obtain ⟨k, e⟩ := tr6 hi
  have hkr := tr1 e
  have hB := (bv_ok hs hst (Nat.le_of_lt hi)).2
  have hB1 : H 953250 (bv O.r O.s st i k) := by rw [(bv_ok hs hst (Nat.le_of_lt hi)).1 k (Nat.lt_of_lt_of_eq (Nat.add_lt_add_right (Nat.lt_succ_self k) i) e)]; exact hst k hkr
  have e1 : bv O.r O.s st (i + 1) = upd (bv O.r O.s st i) k (bi O.s (bv O.r O.s st i) k (O.r - (k + 1))) := by rw [bv, tr5 e]
  have hi3 : i ≤ 3 := Nat.le_of_lt_succ (Nat.lt_of_lt_of_le hi hr)
  rw [tr5 e, e1]
  generalize bv O.r O.s st i = v at hB hB1
  have hB : ∀ j, j < O.r → H 8579259 (v j) := fun j hj => (hB j hj).mono (vh_mono hi3)
  have h0 : (ol O.r fun j => rD (upd v k (bi O.s v k 0) j)) = ol O.r fun j => rD (v j) := ol_congr fun j _ => by
    by_cases h : j = k
    · rw [h, upd_same, bi, sm]; congr 1; grind
    · rw [upd_ne h]
  have hP : ∀ t, t < i → H 39083291 (bi O.s v k t) := fun t ht => (H_sub hB1 (H_part (N := 4) (L := 38130040) (Nat.le_trans hi3 (by decide)) ht (fun j hj => H_mul (hs (k + 1 + j) k (tr2 e hj) (tr3 k j)) (hB (k + 1 + j) (tr2 e hj))) rfl)).up rfl
  exact run_ss [sF (loop_from (congrArg (fun x => [some (fitO m O (ol O.r fun i => rD (st i)) co fi re we (.frz (.int O.r)) df), some x, some (.frz (.int (k : Int))), none]) h0) (loop_ok (cf := callN n) (cn := newN n) (unf (stm (lp (stm b_f_back_coefficients 1)).2.2 0)) (n := O.r - (k + 1)) (g := fun t => .int (((k + 1 : Nat) : Int) + (t : Int))) (fun t => [some (fitO m O (ol O.r fun i => rD (st i)) co fi re we (.frz (.int O.r)) df), some (ol O.r fun j => rD (upd v k (bi O.s v k t) j)), some (.frz (.int (k : Int))), none])
    [lF (range2 (a := k + 1) (b := O.r) (Nat.le_trans hkr hr') hr')] fun t ht =>
      have ht := Nat.lt_of_lt_of_eq ht (tr4 e)
      have hl := tr2 e ht
      have hsh := hs (k + 1 + t) k hl (tr3 k t)
      have hv := hB (k + 1 + t) hl
      [itE (fun j => rD (upd v k (bi O.s v k t) j)) hkr hr' (congrArg rD (upd_same _ _ _)), itO (fun i => vD i (O.s i)) hl hr', itV (O.s (k + 1 + t)) (tr3 k t) (Nat.le_trans (Nat.le_of_lt hl) hr'), itE (fun j => rD (upd v k (bi O.s v k t) j)) hl hr' (congrArg rD (upd_gt (tr3 k t))),
        mulF hn hsh hv, subE (z := bi O.s v k (t + 1)) hn (hP t ht) (H_mul hsh hv) (by rw [bi, bi, sm]; grind), suF2 rD v (bi O.s v k t) (bi O.s v k (t + 1)) hkr hr']))]
end
end MineP.Internal
end
section
set_option maxRecDepth 10000
namespace MineP.Internal
open Mine.Internal
noncomputable def fitD (c m : Nat) (O : OS) (st : Nat → Rat) (co : Nat → D) (fi re : Nat → Rat) (we : D) : D :=
  .inst .fit [("pivots", fl O.r fun i => .int (O.p i)), ("bases", fl O.r fun i => vD m (O.b i)), ("norms", fl O.r fun i => rD (O.N i)), ("shares", fl O.r fun i => vD i (O.s i)), ("steps", fl O.r fun i => rD (st i)), ("coefficients", fl c co), ("fitted", vD m fi), ("residuals", vD m re), ("weights", we), ("rank", .int O.r), ("df", .int ((m : Int) - O.r))]
theorem fit_freeze {c m : Nat} {O : OS} {st : Nat → Rat} {co : Nat → D} {fi re : Nat → Rat} {we : D} :
    (fitO m O (ol O.r fun i => rD (st i)) (ol c co) (ol m fun k => rD (fi k)) (.frz (vD m re)) (.frz we) (.frz (.int O.r)) (.frz (.int ((m : Int) - O.r)))).freeze = fitD c m O st co fi re we := by
  show D.inst .fit _ = _
  simp only [freezeF, freeze_ol]
  rfl
noncomputable def coN (p : Nat → Nat) (v : Nat → Rat) : Nat → Nat → D
  | 0 => fun _ => .none
  | t + 1 => upd (coN p v t) (p t) (rD (v t))
theorem coN_at {r : Nat} {p : Nat → Nat} {v : Nat → Rat} (hp : ∀ i k, i < k → k < r → p i < p k) : ∀ {t : Nat}, t ≤ r → ∀ i, i < t → coN p v t (p i) = rD (v i)
  | 0, _, i, hi => absurd hi (Nat.not_lt_zero i)
  | t + 1, ht, i, hi => by
    rcases Nat.lt_succ_iff_lt_or_eq.1 hi with h | rfl
    · exact (upd_lt (hp i t h ht)).trans (coN_at hp (Nat.le_of_lt ht) i h)
    · exact upd_same _ _ _
noncomputable def OS.v (m : Nat) (w : Nat → Rat) (O : OS) (y : Nat → Rat) : Nat → Rat := bv O.r O.s (O.f m w y) O.r
noncomputable def Fo (c m : Nat) (w : Nat → Rat) (X : Nat → Nat → Rat) (y : Nat → Rat) : Nat → D := coN (os m w X c).p ((os m w X c).v m w y) (os m w X c).r
noncomputable def Re (c m : Nat) (w : Nat → Rat) (X : Nat → Nat → Rat) (y : Nat → Rat) : Nat → Rat := (os m w X c).u m w y
noncomputable def FIT (c m : Nat) (w : Nat → Rat) (X : Nat → Nat → Rat) (y : Nat → Rat) (hv : Bool) : D :=
  fitD c m (os m w X c) ((os m w X c).f m w y) (Fo c m w X y) (fun k => y k - Re c m w X y k) (Re c m w X y) (wD hv m w)
section
variable {hv : Bool} {c m : Nat} {X : Nat → Nat → Rat} {w y : Nat → Rat}
theorem fit_ok (hm : m ≤ 5) (hc : c ≤ 4) (hX : ∀ j, j < c → HV m 3 (X j)) (hw : HV m 2 w) (h1 : hv = false → ∀ k, w k = 1) (hp : ∀ k, k < m → 0 < w k) (hy : HV m 3 y) :
    Rets 7 .f_fit [.frz (mD c m X), .frz (vD m y), .frz (wD hv m w)] (.frz (FIT c m w X y hv)) := by
  have hm' := le1000 hm
  have hc' : c ≤ 1000 := Le.t hc rfl
  refine rets_x (σ := [some (.frz (mD c m X)), some (.frz (vD m y)), some (.frz (wD hv m w)), none, none, none, none, none, none, none]) rfl rfl fun n hn => seqV 3 (σ' := [some (.frz (mD c m X)), some (.frz (vD m y)), some (.frz (wD hv m w)), none, none, none, none, none, none, none]) ?_ ?_
  · have lo : ∀ we : D, xs (callN n) (newN n) (stm b_f_fit 0) [some (.frz (mD c m X)), some (.frz (vD m y)), some (.frz we), none, none, none, none, none, none, none] = some (.next [some (.frz (mD c m X)), some (.frz (vD m y)), some (.frz we), none, none, none, none, none, none, none]) := fun we =>
      loop_ok (cf := callN n) (cn := newN n) (stm b_f_fit 0) (n := c) (g := fun j => vD m (X j)) (fun _ => [some (.frz (mD c m X)), some (.frz (vD m y)), some (.frz we), none, none, none, none, none, none, none]) [] fun j hj => [lnV (X j) hm', lnV y hm', ne0 (Eq.refl (m : Int)), cF hn (check_finite_ok (m := m) (u := X j) "x") rfl]
    cases hv with
    | false => exact run_ss [sF (lo .none), cF hn (check_finite_ok (m := m) (u := y) "y") rfl]
    | true => exact run_ss [sF (lo (vD m w)), cF hn (check_finite_ok (m := m) (u := y) "y") rfl, lnV y hm', cF hn (check_weights_ok hm' hp) rfl]
  have G := GS.all hm hw hX (Nat.le_refl c)
  have S := fun t (ht : t ≤ (os m w X c).r) => TS.all hm hw G hy ht
  have ho := orthogonal_ok (hv := hv) hm hc hX hw h1
  unfold FIT Fo Re
  generalize os m w X c = O at G S ho
  have hr : O.r ≤ 4 := Nat.le_trans G.rj hc
  have hr' : O.r ≤ 1000 := Le.t hr rfl
  have hfi : ∀ i, i < O.r → H 953250 (O.f m w y i) := fun i hi => (S O.r (Nat.le_refl _)).f3 hi hr
  exact run_v [cF hn ho rfl, cgF (fun k => rD (y k)) hm', zoF m fun k => rD (y k),
    sF (loop_ok (cf := callN n) (cn := newN n) (stm b_f_fit 5) (n := O.r) (g := fun k => .int k) (fun t => [some (.frz (mD c m X)), some (.frz (vD m y)), some (.frz (wD hv m w)), none, some (fitO m O (ol t fun i => rD (O.f m w y i)) nl nl nl (.frz .none) (.frz (.int O.r)) (.frz (.int 0))), some (.frz (vD m (us m w O.b O.N y t))), none, none, none, none])
      [rgF hr'] fun t ht =>
      have hu := (S t (Nat.le_of_lt ht)).u3 (Nat.le_of_lt_succ (Nat.lt_of_lt_of_le ht hr))
      have hb := G.b3 ht hr
      have hI : H 476625 (ip m w (us m w O.b O.N y t) (O.b t)) := H_ip hm hu hb hw
      have hN := G.N3 hm hw ht hr
      [cF hn (weighted_ok (hv := hv) hm' hu hw h1 rfl) rfl, itO (fun i => vD m (O.b i)) ht hr', cF hn (dot_ok hm (fun k hk => H_mul (hu k hk) (hw k hk)) hb rfl) rfl, itO (fun i => rD (O.N i)) ht hr', divF hn hI hN (G.n0 t ht),
        apF (fun i => rD (O.f m w y i)) (Nat.le_trans (Nat.le_of_lt ht) hr'), itO (fun i => vD m (O.b i)) ht hr', cF hn (less_multiple_ok hm' hu hb (H_div hI hN) rfl) rfl]),
    none, lnF (fun j => vD m (X j)) hc', rpF .none hc',
    qF (back_ok (m := m) (st := O.f m w y) (co := ol c fun _ => .none) (fi := nl) (re := nl) (we := .frz .none) (df := .frz (.int 0)) hr (fun i t hi ht => (G.hs i t hi ht).mono (nh_mono (show t ≤ 3 from Nat.le_trans (Nat.le_of_lt ht) (Nat.le_of_lt_succ (Nat.lt_of_lt_of_le hi hr))))) hfi (Nat.le_trans (by decide) hn)),
    sF (loop_ok (cf := callN n) (cn := newN n) (stm b_f_fit 8) (n := O.r) (g := fun k => .int k) (fun t => [some (.frz (mD c m X)), some (.frz (vD m y)), some (.frz (wD hv m w)), none, some (fitO m O (ol O.r fun i => rD (O.f m w y i)) (ol c (coN O.p (O.v m w y) t)) nl nl (.frz .none) (.frz (.int O.r)) (.frz (.int 0))), some (.frz (vD m (O.u m w y))), none, none, some (.frz (vD O.r (O.v m w y))), none])
      [rgF hr'] fun t ht => [itV (O.v m w y) ht hr', itO (fun i => .int (O.p i)) ht hr', suF (fun d => d) (coN O.p (O.v m w y) t) (rD (O.v m w y t)) (G.pj t ht) hc']),
    qF (comp_ok (cf := callN n) (cn := newN n) (xE (stm b_f_fit 10)) (g := fun k => .int k) (fun k => rD (y k - O.u m w y k)) [some (.frz (mD c m X)), some (.frz (vD m y)), some (.frz (wD hv m w)), none, some (fitO m O (ol O.r fun i => rD (O.f m w y i)) (ol c (coN O.p (O.v m w y) O.r)) nl (.frz (vD m (O.u m w y))) (.frz .none) (.frz (.int O.r)) (.frz (.int 0))), some (.frz (vD m (O.u m w y))), none, none, some (.frz (vD O.r (O.v m w y))), none] hm' [lnV y hm', rgF hm'] fun k hk =>
      [itV y hk hm', itV (O.u m w y) hk hm', subF hn (hy k hk) ((S O.r (Nat.le_refl _)).u4 hr k hk)]),
    lnV y hm', cF hn (used_rows_ok (hv := hv) hm' hp) rfl,
    zF (fit_freeze (c := c) (m := m) (O := O) (st := O.f m w y) (co := coN O.p (O.v m w y) O.r) (fi := fun k => y k - O.u m w y k) (re := O.u m w y) (we := wD hv m w))]
end
end MineP.Internal
end
section
set_option maxRecDepth 10000
namespace MineP.Internal
open Mine.Internal
theorem sm_mulr (n : Nat) (c : Rat) (f : Nat → Rat) : sm n (fun k => f k * c) = sm n f * c := by
  rw [Rat.mul_comm, ← sm_mul]; exact sm_congr fun k _ => Rat.mul_comm _ _
theorem sm_comm (n m : Nat) (f : Nat → Nat → Rat) : sm n (fun i => sm m (fun j => f i j)) = sm m (fun j => sm n (fun i => f i j)) := by
  induction n with
  | zero => exact (sm_zero fun _ _ => rfl).symm
  | succ n ih => rw [sm, ih, ← sm_add]; rfl
theorem sm_split (a b : Nat) (f : Nat → Rat) : sm (a + b) f = sm a f + sm b (fun q => f (a + q)) := by
  induction b with
  | zero => exact (Rat.add_zero _).symm
  | succ b ih => rw [← Nat.add_assoc, sm, sm, ih, Rat.add_assoc]
theorem sm_one {n t : Nat} {f : Nat → Rat} (ht : t < n) (h : ∀ k, k < n → k ≠ t → f k = 0) : sm n f = f t := by
  induction n with
  | zero => exact absurd ht (Nat.not_lt_zero t)
  | succ n ih =>
    rw [sm]
    rcases Nat.lt_succ_iff_lt_or_eq.1 ht with hn | rfl
    · rw [ih hn fun k hk hne => h k (Nat.lt_succ_of_lt hk) hne, h n (Nat.lt_succ_self n) (Nat.ne_of_gt hn), Rat.add_zero]
    · rw [sm_zero fun k hk => h k (Nat.lt_succ_of_lt hk) (Nat.ne_of_lt hk), Rat.zero_add]
noncomputable def uR (s : Nat → Nat → Rat) (k t : Nat) : Rat := if t = k then 1 else if t < k then s k t else 0
section
variable {s : Nat → Nat → Rat} {k t : Nat}
theorem uR_self : uR s k k = 1 := if_pos rfl
theorem uR_lt (h : t < k) : uR s k t = s k t := (if_neg (Nat.ne_of_lt h)).trans (if_pos h)
theorem uR_gt (h : k < t) : uR s k t = 0 := (if_neg (Nat.ne_of_gt h)).trans (if_neg (Nat.lt_asymm h))
end
theorem uR_sum {r k : Nat} (hk : k < r) (s : Nat → Nat → Rat) (f : Nat → Rat) : sm r (fun t => uR s k t * f t) = f k + sm k fun t => s k t * f t := by
  obtain ⟨d, rfl⟩ : ∃ d, r = k + 1 + d := Nat.exists_eq_add_of_le hk
  have h1 : sm k (fun t => uR s k t * f t) = sm k fun t => s k t * f t := sm_congr fun t ht => by rw [uR_lt ht]
  have h2 : sm d (fun q => uR s k (k + 1 + q) * f (k + 1 + q)) = 0 := sm_zero fun q _ => by rw [uR_gt (tr3 k q), Rat.zero_mul]
  rw [sm_split, sm, h1, h2, uR_self, Rat.add_zero, Rat.one_mul, Rat.add_comm]
noncomputable def dl (i j : Nat) : Rat := if i = j then 1 else 0
theorem dl_same (i : Nat) : dl i i = 1 := if_pos rfl
theorem dl_ne {i j : Nat} (h : i ≠ j) : dl i j = 0 := if_neg h
theorem dl_comm (i j : Nat) : dl i j = dl j i := by
  by_cases h : i = j
  · rw [h]
  · rw [dl_ne h, dl_ne (Ne.symm h)]
theorem sm_dl {n t : Nat} (f : Nat → Rat) (ht : t < n) : sm n (fun k => dl t k * f k) = f t := by
  rw [sm_one (f := fun k => dl t k * f k) ht fun k _ hne => by rw [dl_ne (Ne.symm hne), Rat.zero_mul], dl_same, Rat.one_mul]
theorem tri_inj {r : Nat} {s : Nat → Nat → Rat} {z : Nat → Rat} (h : ∀ t, t < r → sm r (fun k => uR s k t * z k) = 0) : ∀ k, k < r → z k = 0 := by
  suffices hs : ∀ i k, k + 1 + i = r → z k = 0 from fun k hk => by
    obtain ⟨d, e⟩ := Nat.exists_eq_add_of_le hk
    exact hs d k e.symm
  intro i
  induction i using Nat.strongRecOn with
  | ind i ih =>
    intro k e
    have h1 := h k (tr1 e)
    rw [sm_one (f := fun t => uR s t k * z t) (tr1 e) fun j hj hne => ?_, uR_self, Rat.one_mul] at h1
    · exact h1
    · rcases Nat.lt_or_gt_of_ne hne with hjk | hjk
      · rw [uR_gt hjk, Rat.zero_mul]
      · obtain ⟨d, e'⟩ := Nat.exists_eq_add_of_le hj
        rw [ih d (by lia) j e'.symm, Rat.mul_zero]
theorem right_inv {r : Nat} {s V : Nat → Nat → Rat} (h : ∀ t l, t < r → l < r → sm r (fun k => uR s k t * V k l) = dl t l) {i d : Nat} (hi : i < r) (hd : d < r) :
    sm r (fun l => V i l * uR s d l) = dl i d := by
  have key : ∀ k, k < r → sm r (fun l => V k l * uR s d l) + (-1) * dl k d = 0 := by
    refine tri_inj (s := s) (z := fun k => sm r (fun l => V k l * uR s d l) + (-1) * dl k d) fun t ht => ?_
    have h1 : ∀ k, k < r → uR s k t * (sm r (fun l => V k l * uR s d l) + (-1) * dl k d) = sm r (fun l => uR s k t * V k l * uR s d l) + (-1) * (dl d k * uR s k t) := by
      intro k _
      rw [← sm_congr (g := fun l => uR s k t * V k l * uR s d l) (f := fun l => uR s k t * (V k l * uR s d l)) fun l _ => (Rat.mul_assoc _ _ _).symm, sm_mul, dl_comm k d]
      grind
    have h2 : ∀ l, l < r → sm r (fun k => uR s k t * V k l * uR s d l) = dl t l * uR s d l := fun l hl => by rw [sm_mulr, h t l ht hl]
    rw [sm_congr h1, sm_add, sm_mul, sm_dl _ hd, sm_comm, sm_congr h2, sm_dl _ ht]; grind
  have := key i hi
  grind
theorem ip_sm {m n : Nat} {w : Nat → Rat} (f : Nat → Rat) (u : Nat → Nat → Rat) (v : Nat → Rat) : ip m w (fun k => sm n fun t => f t * u t k) v = sm n fun t => f t * ip m w (u t) v := by
  unfold ip
  have h1 : ∀ k, k < m → (sm n fun t => f t * u t k) * w k * v k = sm n fun t => f t * (u t k * w k * v k) := by
    intro k _
    rw [Rat.mul_assoc, ← sm_mulr]
    exact sm_congr fun t _ => by rw [Rat.mul_assoc, ← Rat.mul_assoc (u t k)]
  rw [sm_congr h1, sm_comm]
  exact sm_congr fun t _ => by rw [sm_mul]
section
variable {m j : Nat} {w : Nat → Rat} {X : Nat → Nat → Rat} {O : OS}
theorem GS.eqR (G : GS m w X j O) {i : Nat} (hi : i < O.r) {k : Nat} (hk : k < m) : X (O.p i) k = sm O.r fun t => uR O.s i t * O.b t k := by
  rw [uR_sum (f := fun t => O.b t k) hi, G.eq i hi k hk]
theorem GS.ipb (G : GS m w X j O) {i t : Nat} (hi : i < O.r) (ht : t < O.r) : ip m w (X (O.p i)) (O.b t) = uR O.s i t * O.N t := by
  rw [ip_congr (u' := fun k => sm O.r fun t => uR O.s i t * O.b t k) (v' := O.b t) (fun k hk => G.eqR hi hk) (fun _ _ => rfl), ip_sm, sm_one (f := fun k => uR O.s i k * ip m w (O.b k) (O.b t)) ht, G.nn t ht]
  intro k hk hne
  rw [G.orth k t hk ht hne, Rat.mul_zero]
theorem GS.gram (G : GS m w X j O) {i d : Nat} (hi : i < O.r) (hd : d < O.r) : ip m w (X (O.p i)) (X (O.p d)) = sm O.r fun t => uR O.s i t * (uR O.s d t * O.N t) := by
  rw [ip_congr (u' := fun k => sm O.r fun t => uR O.s i t * O.b t k) (v' := X (O.p d)) (fun k hk => G.eqR hi hk) (fun _ _ => rfl), ip_sm]
  exact sm_congr fun t ht => by rw [ip_comm, G.ipb hd ht]
theorem GS.cov (G : GS m w X j O) {V : Nat → Nat → Rat} (h : ∀ t l, t < O.r → l < O.r → sm O.r (fun k => uR O.s k t * V k l) = dl t l) {C : Nat → Nat → Rat}
    (hC : ∀ i k, C i k = sm O.r fun l => V i l * V k l / O.N l) {i d : Nat} (hi : i < O.r) (hd : d < O.r) :
    sm O.r (fun k => C i k * ip m w (X (O.p k)) (X (O.p d))) = dl i d := by
  rw [← right_inv h hi hd]
  have h1 : ∀ k, k < O.r → C i k * ip m w (X (O.p k)) (X (O.p d)) = sm O.r fun l => (V i l / O.N l) * sm O.r fun t => (uR O.s d t * O.N t) * (uR O.s k t * V k l) := by
    intro k hk
    rw [hC i k, G.gram hk hd, ← sm_mulr]
    refine sm_congr fun l hl => ?_
    rw [sm_congr (f := fun t => uR O.s d t * O.N t * (uR O.s k t * V k l)) (g := fun t => V k l * (uR O.s k t * (uR O.s d t * O.N t))) fun t _ => by grind, sm_mul]
    grind
  rw [sm_congr h1, sm_comm]
  refine sm_congr fun l hl => ?_
  have h2 : ∀ t, t < O.r → sm O.r (fun k => uR O.s d t * O.N t * (uR O.s k t * V k l)) = dl l t * (uR O.s d t * O.N t) := by
    intro t ht
    rw [sm_mul, h t l ht hl, dl_comm, Rat.mul_comm]
  rw [sm_mul, sm_comm, sm_congr h2, sm_dl _ hl]
  have := G.n0 l hl
  grind
end
structure IV (r : Nat) (s V : Nat → Nat → Rat) : Prop where
  one : ∀ j, j < r → V j j = 1
  low : ∀ k j, j < r → j < k → V k j = 0
  eq : ∀ i t, i + 1 + t < r → V i (i + 1 + t) + sm (t + 1) (fun q => s (i + 1 + q) i * V (i + 1 + q) (i + 1 + t)) = 0
theorem IV.inv {r : Nat} {s V : Nat → Nat → Rat} (h : IV r s V) {t l : Nat} (ht : t < r) (hl : l < r) : sm r (fun k => uR s k t * V k l) = dl t l := by
  rcases Nat.lt_trichotomy t l with h0 | rfl | h0
  · obtain ⟨q, rfl⟩ := Nat.exists_eq_add_of_le h0
    obtain ⟨d, rfl⟩ := Nat.exists_eq_add_of_le hl
    have h1 := h.eq t q hl
    rw [dl_ne (Nat.ne_of_lt h0), ← h1]
    rw [show t.succ + q + 1 + d = t + 1 + (q + 1) + d from rfl, sm_split, sm_split, sm]
    rw [sm_zero (n := t) fun k hk => by rw [uR_gt hk, Rat.zero_mul]]
    rw [sm_zero (n := d) fun k _ => by rw [h.low (t + 1 + (q + 1) + k) _ hl (Nat.lt_of_lt_of_le (Nat.lt_succ_self _) (Nat.le_add_right _ _)), Rat.mul_zero]]
    rw [sm_congr (n := q + 1) (g := fun q' => s (t + 1 + q') t * V (t + 1 + q') (t + 1 + q)) fun k _ => by rw [uR_lt (tr3 t k)]]
    rw [uR_self, Rat.zero_add, Rat.one_mul, Rat.add_zero]
  · rw [sm_one (f := fun k => uR s k t * V k t) ht, uR_self, h.one t ht, dl_same, Rat.one_mul]
    intro k hk hne
    rcases Nat.lt_or_gt_of_ne hne with hkt | hkt
    · rw [uR_gt hkt, Rat.zero_mul]
    · rw [h.low k t ht hkt, Rat.mul_zero]
  · rw [dl_ne (Nat.ne_of_gt h0)]
    refine sm_zero fun k hk => ?_
    rcases Nat.lt_or_ge k t with hkt | hkt
    · rw [uR_gt hkt, Rat.zero_mul]
    · rw [h.low k l hl (Nat.lt_of_lt_of_le h0 hkt), Rat.mul_zero]
noncomputable def iw (s : Nat → Nat → Rat) (j : Nat) : Nat → Nat → Rat
  | 0 => fun i => dl i j
  | t + 1 => upd (iw s j t) (j - 1 - t) (0 - sm (t + 1) fun q => s (j - 1 - t + 1 + q) (j - 1 - t) * iw s j t (j - 1 - t + 1 + q))
noncomputable def iV (s : Nat → Nat → Rat) (i l : Nat) : Rat := iw s l l i
section
variable {s : Nat → Nat → Rat} {i t j : Nat}
theorem iw_succ (e : i + 1 + t = j) : iw s j (t + 1) = upd (iw s j t) i (0 - sm (t + 1) fun q => s (i + 1 + q) i * iw s j t (i + 1 + q)) := by rw [iw, tr5 e]
theorem iw_keep (h : j ≤ i + t) : ∀ {t' : Nat}, t ≤ t' → t' ≤ j → iw s j t' i = iw s j t i := by
  intro t' ht ht'
  induction ht with
  | refl => rfl
  | @step u hu ih =>
    obtain ⟨k, e⟩ := tr6 ht'
    rw [iw_succ e, upd_ne (fun q => ?_), ih (Nat.le_of_succ_le ht')]
    subst q
    have : i + 1 + u ≤ i + t := e ▸ h
    exact Nat.lt_irrefl _ (Nat.lt_of_lt_of_le (Nat.lt_of_lt_of_le (Nat.lt_succ_self _) (Nat.le_of_eq (Nat.add_right_comm i u 1))) (Nat.le_trans this (Nat.add_le_add_left hu i)))
theorem iw_low (h : j ≤ i) : ∀ {t' : Nat}, t' ≤ j → iw s j t' i = dl i j := fun ht => iw_keep (t := 0) h (Nat.zero_le _) ht
theorem iV_ok (r : Nat) (s : Nat → Nat → Rat) : IV r s (iV s) := by
  refine ⟨fun j _ => (iw_low (Nat.le_refl j) (Nat.le_refl j)).trans (dl_same j), fun k j _ h => (iw_low (Nat.le_of_lt h) (Nat.le_refl j)).trans (dl_ne (Nat.ne_of_gt h)), fun i t _ => ?_⟩
  have hi : iV s i (i + 1 + t) = iw s (i + 1 + t) (t + 1) i := iw_keep (Nat.le_of_eq (Nat.add_assoc i 1 t ▸ Nat.add_comm 1 t ▸ rfl)) (Nat.add_comm t 1 ▸ Nat.add_assoc i 1 t ▸ Nat.le_add_left _ _) (Nat.le_refl _)
  have hq : ∀ q, iV s (i + 1 + q) (i + 1 + t) = iw s (i + 1 + t) t (i + 1 + q) := fun q => iw_keep (Nat.add_le_add_right (Nat.le_add_right _ _) _) (Nat.le_add_left _ _) (Nat.le_refl _)
  rw [hi, iw_succ rfl, upd_same, sm_congr (f := fun q => s (i + 1 + q) i * iV s (i + 1 + q) (i + 1 + t)) (g := fun q => s (i + 1 + q) i * iw s (i + 1 + t) t (i + 1 + q)) fun q _ => by rw [hq q]]
  grind
noncomputable def ih : Nat → Nat
  | 0 => 0
  | t + 1 => (t + 1) * (43330 + ih t + 1) + 1
theorem ih_le : ∀ {t : Nat}, ih t ≤ ih (t + 1)
  | 0 => by decide
  | t + 1 => Nat.succ_le_succ (Nat.mul_le_mul (Nat.le_succ (t + 1)) (Nat.succ_le_succ (Nat.add_le_add_left (ih_le (t := t)) _)))
theorem ih_mono {a b : Nat} (h : a ≤ b) : ih a ≤ ih b := by
  induction h with
  | refl => exact Nat.le_refl _
  | step h i => exact Nat.le_trans i ih_le
theorem H_dl (i j : Nat) : H 0 (dl i j) := by
  unfold dl; split
  · exact H_one
  · exact H_zero
theorem iw_H {r : Nat} (hs : ∀ i t, i < r → t < i → H 43330 (s i t)) (hj : j < r) : ∀ {t : Nat}, t ≤ j → ∀ i, H (ih t) (iw s j t i)
  | 0, _, i => H_dl i j
  | t + 1, ht, i => by
    obtain ⟨k, e⟩ := tr6 ht
    rw [iw_succ e]
    by_cases h : i = k
    · rw [h, upd_same]
      exact (H_sub H_zero (H_sm fun q hq => H_mul (hs _ _ (Nat.lt_of_le_of_lt (Nat.le_trans (Nat.add_le_add_left (Nat.le_of_lt_succ hq) _) (Nat.le_of_eq e)) hj) (tr3 k q)) (iw_H hs hj (Nat.le_of_succ_le ht) _))).mono (Nat.le_of_eq (by rw [Nat.zero_add]; rfl))
    · rw [upd_ne h]; exact (iw_H hs hj (Nat.le_of_succ_le ht) i).mono ih_le
end
end MineP.Internal
end
section
set_option maxRecDepth 10000
namespace MineP.Internal
open Mine.Internal
noncomputable def oo (n : Nat) (g : Nat → T) : T := .olist ((List.range n).map g)
noncomputable def oM (n r : Nat) (V : Nat → Nat → Rat) : T := oo n fun i => ol r fun l => rD (V i l)
theorem append_oo {n : Nat} {g : Nat → T} {t : T} (hn : n ≤ 1000) (h : g n = t) : appendT t (oo n g) = some (oo (n + 1) g) := by
  refine (if_pos (by rw [List.length_map, List.length_range]; exact hn)).trans ?_
  rw [oo, List.range_succ, List.map_append, ← h]; rfl
theorem oo_get {n k : Nat} (g : Nat → T) (hk : k < n) : ((List.range n).map g)[k]? = some (g k) := by rw [List.getElem?_map, List.getElem?_range hk]; rfl
theorem item_oo {n k : Nat} (g : Nat → T) (hk : k < n) (hn : n ≤ 1000) : prim .item [oo n g, .frz (.int k)] = some (g k) := item_olist (Nat.le_trans (Nat.le_of_lt hk) hn) (oo_get g hk)
theorem freeze_oo (n : Nat) (g : Nat → T) : (oo n g).freeze = fl n fun i => (g i).freeze := by
  show D.list _ = D.list _
  congr 1
  unfold rg
  induction List.range n with
  | nil => rfl
  | cons x l ih => exact congrArg (_ :: ·) ih
theorem upd_oM {σ : Sg} {a b : P} {n r i j : Nat} {V : Nat → Nat → Rat} {x : Rat} (ha : pv σ a = some (.frz (.int i))) (hb : pv σ b = some (.frz (.int j))) (hi : i < n) (hj : j < r) (hn : n ≤ 1000) (hr : r ≤ 1000) :
    updP σ [.item a] (store σ (.item b) (.frz (rD x))) (oM n r V) = some (oM n r (upd V i (upd (V i) j x))) := by
  show (pv σ a).bind _ = _
  rw [ha]
  show (idx i).bind _ = _
  rw [idx_nat (Nat.le_trans (Nat.le_of_lt hi) hn)]
  show (((List.range n).map _)[i]?).bind _ = _
  rw [oo_get _ hi]
  show ((pv σ b).bind _).bind _ = _
  rw [hb]
  rw [Option.bind_some]
  rw [store_upd rD (V i) x hj hr]
  show some (T.olist _) = some (T.olist _)
  congr 2
  apply List.ext_getElem
  · simp
  · intro k h1 h2
    simp only [List.getElem_set, List.getElem_map, List.getElem_range]
    by_cases h : i = k
    · rw [if_pos h, ← h, upd_same]
    · rw [if_neg h, upd_ne (Ne.symm h)]
noncomputable def itEF {n k : Nat} {d : D} (g : Nat → D) (hk : k < n) (hn : n ≤ 1000) (h : g k = d) : Option Fact := tF (h ▸ item_fl g hk hn)
noncomputable def addE {A B d n : Nat} {x y z : Rat} (hn : d ≤ n) (hx : H A x) (hy : H B y) (h : x + y = z) (hr : Room (A + B) := by exact rfl) (e : Nat.ble 3 d = true := by exact rfl) : Option Fact := cF hn (h ▸ add_ok hx hy hr) e
noncomputable def vj (s : Nat → Nat → Rat) (j t : Nat) (i l : Nat) : Rat := if l = j then iw s j t i else if l < j then iV s i l else dl i l
section
variable {s : Nat → Nat → Rat} {j t i r : Nat}
theorem vj_at : vj s j t i j = iw s j t i := if_pos rfl
theorem vj_succ (e : i + 1 + t = j) : upd (vj s j t) i (upd (vj s j t i) j (0 - sm (t + 1) fun q => s (i + 1 + q) i * iw s j t (i + 1 + q))) = vj s j (t + 1) := by
  funext a l
  unfold vj
  rw [iw_succ e]
  by_cases ha : a = i
  · rw [ha, upd_same, upd_same]
    by_cases hl : l = j
    · rw [hl, upd_same, if_pos rfl]
    · rw [upd_ne hl, if_neg hl, if_neg hl]
  · rw [upd_ne ha, upd_ne ha]
theorem vj_next : vj s j j = vj s (j + 1) 0 := by
  funext i l
  unfold vj
  by_cases h : l = j
  · rw [if_pos h, h, if_neg (Nat.ne_of_lt (Nat.lt_succ_self j)), if_pos (Nat.lt_succ_self j)]; rfl
  · rw [if_neg h]
    by_cases h' : l < j
    · rw [if_pos h', if_neg (Nat.ne_of_lt (Nat.lt_succ_of_lt h')), if_pos (Nat.lt_succ_of_lt h')]
    · rw [if_neg h']
      by_cases h2 : l = j + 1
      · rw [if_pos h2, h2]; rfl
      · rw [if_neg h2, if_neg (fun q => (Nat.lt_succ_iff_lt_or_eq.1 q).elim h' h)]
theorem oM_congr {n : Nat} {V W : Nat → Nat → Rat} (h : ∀ i l, i < n → l < r → V i l = W i l) : oM n r V = oM n r W := by
  unfold oM oo
  congr 1
  exact List.map_congr_left fun i hi => ol_congr fun l hl => by rw [h i l (List.mem_range.1 hi) hl]
theorem oM_freeze {n : Nat} {V W : Nat → Nat → Rat} (h : ∀ i l, i < n → l < r → V i l = W i l) : (oM n r V).freeze = fl n fun i => vD r (W i) := by
  rw [oM, freeze_oo]
  exact fl_congr fun i hi => by rw [freeze_ol]; exact fl_congr fun l hl => by rw [h i l hi hl]
end
section
variable {c m : Nat} {O : OS} {st : Nat → Rat} {co : Nat → D} {fi re : Nat → Rat} {we : D}
theorem inverse_ok (hr : O.r ≤ 4) (hs : ∀ i t, i < O.r → t < i → H 43330 (O.s i t)) :
    Rets 5 .f_inverse_shares [.frz (fitD c m O st co fi re we)] (.frz (fl O.r fun i => vD O.r (iV O.s i))) := by
  have hr' : O.r ≤ 1000 := Le.t hr rfl
  refine rets rfl fun n hn => [
    sF (loop_ok (cf := callN n) (cn := newN n) (stm b_f_inverse_shares 1) (n := O.r) (g := fun i => .int i) (fun i => [some (.frz (fitD c m O st co fi re we)), some (oM i O.r dl), none, none, none, none, none]) [rgF hr'] fun i hi =>
      [none, rpF (rD 0) hr', tF (o := storeI (.frz (rD 1)) (.frz (.int i)) (ol O.r fun _ => rD 0)) (t := ol O.r fun l => rD (dl i l)) ((store_ol hi hr').trans (congrArg some (ol_congr fun l _ => by
        unfold dl; by_cases h : l = i
        · rw [if_pos h, if_pos h.symm]
        · rw [if_neg h, if_neg (Ne.symm h)]))), tF (append_oo (g := fun i => ol O.r fun l => rD (dl i l)) (Nat.le_trans (Nat.le_of_lt hi) hr') rfl)]),
    sF (loop_from (congrArg (fun x => [some (.frz (fitD c m O st co fi re we)), some x, none, none, none, none, none]) (oM_congr (V := vj O.s 0 0) (W := dl) fun i l _ _ => ?_)) (loop_by (cf := callN n) (cn := newN n) (stm b_f_inverse_shares 2) (n := O.r) (g := fun i => .int i) (fun j => [some (.frz (fitD c m O st co fi re we)), some (oM O.r O.r (vj O.s j 0)), none, none, none, none, none]) [rgF hr'] fun j hj => ?_)),
    zF (oM_freeze (n := O.r) (V := vj O.s O.r 0) (W := iV O.s) fun i l _ hl => (if_neg (Nat.ne_of_lt hl)).trans (if_pos hl))]
  · unfold vj
    by_cases h : l = 0
    · rw [if_pos h, h]; rfl
    · rw [if_neg h, if_neg (Nat.not_lt_zero l)]
  · have hj3 : j ≤ 3 := Nat.le_of_lt_succ (Nat.lt_of_lt_of_le hj hr)
    have hj' := Nat.le_trans (Nat.le_of_lt hj) hr'
    rw [← vj_next]
    refine run_ss [sF (loop_by (cf := callN n) (cn := newN n) (unf (stm (lp (stm b_f_inverse_shares 2)).2.2 0)) (n := j) (g := fun t => .int ((j - 1 - t : Nat) : Int)) (fun t => [some (.frz (fitD c m O st co fi re we)), some (oM O.r O.r (vj O.s j t)), none, none, some (.frz (.int (j : Int))), none, none]) [lF (rangeD (n := j) rfl hj')] fun t ht => ?_)]
    obtain ⟨i, e⟩ := tr6 ht
    have hij := tr1 e
    have hir := Nat.lt_trans hij hj
    have ht2 : t ≤ 2 := Nat.le_of_lt_succ (Nat.lt_of_lt_of_le ht hj3)
    have hI : ∀ k, H 173327 (iw O.s j t k) := fun k => (iw_H hs hj (Nat.le_of_lt ht) k).mono (ih_mono ht2)
    have hk : ∀ q, q < t + 1 → i + 1 + q < O.r := fun q hq => Nat.lt_of_le_of_lt (Nat.le_trans (Nat.add_le_add_left (Nat.le_of_lt_succ hq) _) (Nat.le_of_eq e)) hj
    have hM : ∀ q, q < t + 1 → H 216657 (O.s (i + 1 + q) i * iw O.s j t (i + 1 + q)) := fun q hq => (H_mul (hs _ _ (hk q hq) (tr3 i q)) (hI (i + 1 + q))).up rfl
    have e2 : j + 1 - (i + 1) = t + 1 := by rw [← e, Nat.add_assoc (i + 1), Nat.add_sub_cancel_left]
    have h5 : t + 1 ≤ 5 := Nat.le_trans (Nat.succ_le_succ ht2) (by decide)
    have hr2 := range2 (a := i + 1) (b := j + 1) (Nat.le_trans hij hj') (Nat.le_trans hj hr')
    rw [e2] at hr2
    rw [tr5 e, ← vj_succ e]
    exact run_ss [sF (loop_ok (cf := callN n) (cn := newN n) (stm (lp (unf (stm (lp (stm b_f_inverse_shares 2)).2.2 0))).2.2 1) (n := t + 1) (g := fun q => .int (((i + 1 : Nat) : Int) + (q : Int))) (fun q => [some (.frz (fitD c m O st co fi re we)), some (oM O.r O.r (vj O.s j t)), some (.frz (.int (i : Int))), none, some (.frz (.int (j : Int))), some (.frz (rD (sm q fun q => O.s (i + 1 + q) i * iw O.s j t (i + 1 + q)))), none]) [lF hr2] fun q hq =>
        have hl := hk q hq
        [itF (fun i => vD i (O.s i)) hl hr', itV (O.s (i + 1 + q)) (tr3 i q) (Nat.le_trans (Nat.le_of_lt hl) hr'), tF (item_oo (fun i => ol O.r fun l => rD (vj O.s j t i l)) hl hr'), itE (fun l => rD (vj O.s j t (i + 1 + q) l)) hj hr' (congrArg rD vj_at),
          mulF hn (hs _ _ hl (tr3 i q)) (hI (i + 1 + q)), addF hn (H_part (L := 866632) h5 hq hM rfl) (hM q hq)]),
      subF hn H_zero (H_all (L := 1083290) h5 hM rfl),
      tF (upd_oM (σ := [some (.frz (fitD c m O st co fi re we)), some (oM O.r O.r (vj O.s j t)), some (.frz (.int (i : Int))), none, some (.frz (.int (j : Int))), some (.frz (rD (sm (t + 1) fun q => O.s (i + 1 + q) i * iw O.s j t (i + 1 + q)))), none]) (a := .var 2) (b := .var 4) (V := vj O.s j t) (x := 0 - sm (t + 1) fun q => O.s (i + 1 + q) i * iw O.s j t (i + 1 + q)) rfl rfl hir hj hr' hr')]
end
end MineP.Internal
end
section
set_option maxRecDepth 10000
namespace MineP.Internal
open Mine.Internal
noncomputable def iR (i : Int) : Rat := (i : Rat)
theorem rp_int (i : Int) : rp (iR i) = (i, 1) := by simp [rp, iR]
theorem iR_ne {i : Int} (h : i ≠ 0) : iR i ≠ 0 := by simp only [iR]; exact_mod_cast h
theorem HP_small {i : Int} (h : i.natAbs ≤ 8) : HP 3 (i, 1) := ⟨h, by show (1 : Int).natAbs ≤ 2 ^ 3; decide⟩
theorem H_small {i : Int} (h : i.natAbs ≤ 8) : H 3 (iR i) := by unfold H; rw [rp_int]; exact HP_small h
theorem divP_int {x : Rat} {i : Int} (h : i ≠ 0) : divP (rp x) (i, 1) = rp (x / iR i) := by rw [← rp_int, rp_div (iR_ne h)]
theorem df8 {m r : Nat} (hm : m ≤ 5) (hr : r ≤ 4) : ((m : Int) - r).natAbs ≤ 8 := by lia
noncomputable def uC (O : OS) (i k : Nat) : Rat := sm O.r fun l => iV O.s i l * iV O.s k l / O.N l
theorem uC_comm (O : OS) (i k : Nat) : uC O i k = uC O k i := sm_congr fun l _ => by rw [Rat.mul_comm]
section
variable {m j : Nat} {w : Nat → Rat} {X : Nat → Nat → Rat} {O : OS}
theorem uC_cov (G : GS m w X j O) {i d : Nat} (hi : i < O.r) (hd : d < O.r) : sm O.r (fun k => uC O i k * ip m w (X (O.p k)) (X (O.p d))) = dl i d :=
  G.cov (fun t l ht hl => (iV_ok O.r O.s).inv ht hl) (fun i k => rfl) hi hd
theorem iV_H (G : GS m w X j O) (hr : O.r ≤ 4) {i l : Nat} (hl : l < O.r) : H 649975 (iV O.s i l) := (iw_H (fun i t hi ht => G.s2 hr hi ht) hl (Nat.le_refl l) i).mono (ih_mono (show l ≤ 3 from Nat.le_of_lt_succ (Nat.lt_of_lt_of_le hl hr)))
theorem uT_H (hm : m ≤ 5) (hw : HV m 2 w) (G : GS m w X j O) (hr : O.r ≤ 4) {i k l : Nat} (hl : l < O.r) : H 1776575 (iV O.s i l * iV O.s k l / O.N l) := (H_div (H_mul (iV_H G hr hl) (iV_H G hr hl)) (G.N3 hm hw hl hr)).up rfl
theorem uC_H (hm : m ≤ 5) (hw : HV m 2 w) (G : GS m w X j O) (hr : O.r ≤ 4) (i k : Nat) : H 7106304 (uC O i k) := H_all hr (fun l hl => uT_H hm hw G hr hl) rfl
theorem uC_from {mx i k : Nat} (hi : i < O.r) (hk : k < O.r) (h1 : mx ≤ O.r) (h : mx = i ∨ mx = k) : uC O i k = sm (O.r - mx) fun q => iV O.s i (mx + q) * iV O.s k (mx + q) / O.N (mx + q) := by
  have hz : ∀ l, l < mx → iV O.s i l * iV O.s k l / O.N l = 0 := fun l hl => by
    have : iV O.s i l * iV O.s k l = 0 := by
      rcases h with h | h
      · rw [(iV_ok O.r O.s).low i l (Nat.lt_of_lt_of_le hl h1) (h ▸ hl), Rat.zero_mul]
      · rw [(iV_ok O.r O.s).low k l (Nat.lt_of_lt_of_le hl h1) (h ▸ hl), Rat.mul_zero]
    rw [this, Rat.div_def, Rat.zero_mul]
  obtain ⟨d, e⟩ := Nat.exists_eq_add_of_le h1
  unfold uC
  rw [e, Nat.add_sub_cancel_left, sm_split, sm_zero hz, Rat.zero_add]
end
section
variable {hv : Bool} {c m j : Nat} {w : Nat → Rat} {X : Nat → Nat → Rat} {O : OS} {st : Nat → Rat} {co : Nat → D} {fi re : Nat → Rat} {we : D}
theorem rss_ok {A : Nat} (hm : m ≤ 5) (hw : HV m 2 w) (h1 : hv = false → ∀ k, w k = 1) (hre : HV m A re) (hA : Nat.ble (4 * (A + 2 + A + 1) + (A + 2 + A) + 2) 134217728 = true) (h2 : Room (A + 2)) :
    Rets 5 .f_rss [.frz (fitD c m O st co fi re (wD hv m w))] (.frz (rD (ip m w re re))) := by
  have e1 := weighted_ok (hv := hv) (le1000 hm) hre hw h1 h2
  have e2 := dot_ok hm (fun k hk => H_mul (hre k hk) (hw k hk)) hre hA
  cases hv with
  | false => exact rets rfl fun n hn => [cF hn e1 rfl, cF hn e2 rfl]
  | true => exact rets rfl fun n hn => [cF hn e1 rfl, cF hn e2 rfl]
theorem unscaled_ok (hm : m ≤ 5) (hr : O.r ≤ 4) (hw : HV m 2 w) (G : GS m w X j O) :
    Rets 6 .f_unscaled_covariance [.frz (fitD c m O st co fi re we)] (.frz (fl O.r fun i => vD O.r (uC O i))) := by
  have hr' : O.r ≤ 1000 := Le.t hr rfl
  have hV := inverse_ok (c := c) (m := m) (st := st) (co := co) (fi := fi) (re := re) (we := we) hr fun i t hi ht => G.s2 hr hi ht
  refine rets rfl fun n hn => [cF hn hV rfl,
    sF (loop_ok (cf := callN n) (cn := newN n) (stm b_f_unscaled_covariance 2) (n := O.r) (g := fun i => .int i) (fun i => [some (.frz (fitD c m O st co fi re we)), some (.frz (fl O.r fun i => vD O.r (iV O.s i))), some (ol i fun i => vD O.r (uC O i)), none, none, none, none, none, none]) [rgF hr'] fun i hi =>
      [sF (loop_by (cf := callN n) (cn := newN n) (stm (lp (stm b_f_unscaled_covariance 2)).2.2 1) (n := O.r) (g := fun i => .int i) (fun j => [some (.frz (fitD c m O st co fi re we)), some (.frz (fl O.r fun i => vD O.r (iV O.s i))), some (ol i fun i => vD O.r (uC O i)), some (.frz (.int (i : Int))), some (ol j fun j => rD (uC O i j)), none, none, none, none]) [rgF hr'] fun j hj => ?_),
       zoF O.r fun j => rD (uC O i j), apF (fun i => vD O.r (uC O i)) (Nat.le_trans (Nat.le_of_lt hi) hr')]),
    zoF O.r fun i => vD O.r (uC O i)]
  obtain ⟨mx, hx, hm1, hmd⟩ : ∃ mx : Nat, (if (i : Int) < j then (j : Int) else i) = (mx : Int) ∧ mx < O.r ∧ (mx = i ∨ mx = j) := by
    by_cases h : (i : Int) < j
    · exact ⟨j, if_pos h, hj, .inr rfl⟩
    · exact ⟨i, if_neg h, hi, .inl rfl⟩
  have hrg := range2 (a := mx) (b := O.r) (Nat.le_trans (Nat.le_of_lt hm1) hr') hr'
  have hk : ∀ q, q < O.r - mx → mx + q < O.r := fun q hq => Nat.add_lt_of_lt_sub' hq
  have hT : ∀ q, q < O.r - mx → H 1776575 (iV O.s i (mx + q) * iV O.s j (mx + q) / O.N (mx + q)) := fun q hq => uT_H hm hw G hr (hk q hq)
  have hrg' : rangeItems [.frz (.int (if (i : Int) < j then (j : Int) else i)), .frz (.int O.r)] = some (rg (O.r - mx) fun k => .int ((mx : Int) + (k : Int))) := by rw [hx]; exact hrg
  exact run_ss [sF (loop_ok (cf := callN n) (cn := newN n) (stm (lp (stm (lp (stm b_f_unscaled_covariance 2)).2.2 1)).2.2 1) (n := O.r - mx) (g := fun q => .int ((mx : Int) + (q : Int))) (fun q => [some (.frz (fitD c m O st co fi re we)), some (.frz (fl O.r fun i => vD O.r (iV O.s i))), some (ol i fun i => vD O.r (uC O i)), some (.frz (.int (i : Int))), some (ol j fun j => rD (uC O i j)), some (.frz (.int (j : Int))), some (.frz (rD (sm q fun q => iV O.s i (mx + q) * iV O.s j (mx + q) / O.N (mx + q)))), none, none])
      [lF hrg'] fun q hq =>
      have hl := hk q hq
      have h1 := iV_H (i := i) G hr hl
      have h2 := iV_H (i := j) G hr hl
      [itF (fun i => vD O.r (iV O.s i)) hi hr', itV (iV O.s i) hl hr', itF (fun i => vD O.r (iV O.s i)) hj hr', itV (iV O.s j) hl hr', mulF hn h1 h2, itF (fun i => rD (O.N i)) hl hr', divF hn (H_mul h1 h2) (G.N3 hm hw hl hr) (G.n0 _ hl),
       addF hn (H_part (N := 4) (L := 7106304) (Nat.le_trans (Nat.sub_le _ _) (Nat.le_trans hr (by decide))) hq hT rfl) (hT q hq)]),
    tF (append_ol (fun j => rD (uC O i j)) (Nat.le_trans (Nat.le_of_lt hj) hr') (congrArg rD (uC_from hi hj (Nat.le_of_lt hm1) hmd)))]
noncomputable def vaP (m r : Nat) (U : Rat) : Q := divP (rp U) ((m : Int) - r, 1)
theorem vaP_H (hm : m ≤ 5) (hr : O.r ≤ 4) {U : Rat} (hU : H 10485745 U) : HP 10485748 (vaP m O.r U) := (HP_div hU (HP_small (df8 hm hr))).up rfl
theorem ip_H (hm : m ≤ 5) (hw : HV m 2 w) (hre : HV m 1048573 re) : H 10485745 (ip m w re re) := H_ip hm hre hre hw
theorem variance_ok (hm : m ≤ 5) (hr : O.r ≤ 4) (hw : HV m 2 w) (h1 : hv = false → ∀ k, w k = 1) (hre : HV m 1048573 re) :
    Rets 6 .f_variance [.frz (fitD c m O st co fi re (wD hv m w))] (.frz (qD (vaP m O.r (ip m w re re)))) :=
  rets rfl fun n hn => [cF hn (rss_ok (c := c) (O := O) (st := st) (co := co) (fi := fi) (hv := hv) hm hw h1 hre rfl rfl) rfl, cF hn (divP_ok (ip_H hm hw hre) (HP_small (df8 hm hr)) rfl) rfl]
noncomputable def cK (O : OS) (va : Q) (i j : Nat) : Q := mulP (rp (uC O i j)) va
theorem covariance_ok (hm : m ≤ 5) (hr : O.r ≤ 4) (hw : HV m 2 w) (h1 : hv = false → ∀ k, w k = 1) (hre : HV m 1048573 re) (G : GS m w X j O) :
    Rets 7 .f_covariance [.frz (fitD c m O st co fi re (wD hv m w))] (.frz (fl O.r fun i => fl O.r fun k => qD (cK O (vaP m O.r (ip m w re re)) i k))) := by
  have hr' : O.r ≤ 1000 := Le.t hr rfl
  have e1 := variance_ok (c := c) (st := st) (co := co) (fi := fi) hm hr hw h1 hre
  have e2 := unscaled_ok (c := c) (st := st) (co := co) (fi := fi) (re := re) (we := wD hv m w) hm hr hw G
  have hva := vaP_H hm hr (ip_H hm hw hre)
  generalize fitD c m O st co fi re (wD hv m w) = F at e1 e2
  generalize vaP m O.r (ip m w re re) = va at e1 hva
  exact rets rfl fun n hn => [cF hn e1 rfl,
    qF (comp_ok (cf := callN n) (cn := newN n) (unz (xE (stm b_f_covariance 1))) (n := O.r) (g := fun i => vD O.r (uC O i)) (fun i => fl O.r fun k => qD (cK O va i k)) [some (.frz F), some (.frz (qD va)), none, none] hr' [cF hn e2 rfl] fun i hi =>
      [qF (comp_ok (cf := callN n) (cn := newN n) (unz (cp (unz (xE (stm b_f_covariance 1)))).2.2.2) (n := O.r) (g := fun k => rD (uC O i k)) (fun k => qD (cK O va i k)) [some (.frz F), some (.frz (qD va)), some (.frz (vD O.r (uC O i))), none] hr' [] fun k hk => [cF hn (mulP_ok (uC_H hm hw G hr i k) hva rfl) rfl]),
       zoF O.r fun k => qD (cK O va i k)]),
    zoF O.r fun i => fl O.r fun k => qD (cK O va i k)]
end
noncomputable def fvP (q u : Rat) (d1 d2 : Int) : Q := divP (divP (rp q) (d1, 1)) (divP (rp u) (d2, 1))
theorem f_value_ok {q u : Rat} {A B : Nat} {d1 d2 : Int} (hq : H A q) (hu : H B u) (h1 : d1.natAbs ≤ 8) (h2 : d2.natAbs ≤ 8) (hA : Room (A + 3)) (hB : Room (B + 3)) (h : Room (A + 3 + (B + 3))) :
    Rets 4 .f_f_value [.frz (rD q), .frz (.int d1), .frz (rD u), .frz (.int d2)] (.frz (qD (fvP q u d1 d2))) :=
  rets rfl fun n hn => [cF hn (divP_ok hq (HP_small h1) hA) rfl, cF hn (divP_ok hu (HP_small h2) hB) rfl, cF hn (divP_ok (HP_div hq (HP_small h1)) (HP_div hu (HP_small h2)) h) rfl]
theorem fvP_rp {q u : Rat} {d1 d2 : Int} (h1 : d1 ≠ 0) (h2 : d2 ≠ 0) (hu : u ≠ 0) : fvP q u d1 d2 = rp (q / iR d1 / (u / iR d2)) := by
  have h : u / iR d2 ≠ 0 := by
    have := iR_ne h2
    grind
  rw [fvP, divP_int h1, divP_int h2, rp_div h]
end MineP.Internal
end
section
set_option maxRecDepth 10000
namespace MineP.Internal
open Mine.Internal
noncomputable def vecT (k : String) (it at_ : T) : T := .oinst .vector [("kind", .frz (.str k)), ("items", it), ("attrs", at_), ("shared", .frz (.bool false)), ("loose", .frz (.bool false))]
noncomputable def vecD (k : String) (it at_ : D) : D := .inst .vector [("kind", .str k), ("items", it), ("attrs", at_), ("shared", .any), ("loose", .bool false)]
noncomputable def nullT : T := .oinst .null [("kind", .frz (.str "NULL")), ("attrs", .frz .none)]
noncomputable def nullD : D := .inst .null [("kind", .str "NULL"), ("attrs", .none)]
noncomputable def chD (l : List D) : D := vecD "character" (.list l) .none
noncomputable def inD (l : List D) : D := vecD "integer" (.list l) .none
noncomputable def inQ (q : T × Sg) : Option T := (asD q.1).bind fun d => d.none?.bind fun _ => gv q.2 0
theorem news {c n : Nat} {cls : Cls} {I : Info} {args : List T} {t : T} (hn : c + 1 ≤ n) (hc : ∀ m, newN (m + 1) cls args = initN (runF I (callN m) (newN m) (.oinst cls [] :: args))) (fs : ∀ n, c ≤ n → Tr)
    (e : ∀ n (hn : c ≤ n), obs inQ (rFn (callN n) (newN n) I (.oinst cls [] :: args)) (fs n hn) = some (some t, told' (rFn (callN n) (newN n) I (.oinst cls [] :: args)) (fs n hn)) := by intro n hn; kernel_rfl) : newN n cls args = some t := by
  obtain ⟨m, rfl⟩ : ∃ m, n = m + 1 := ⟨n - 1, (Nat.sub_add_cancel (Nat.le_trans (Nat.le_add_left 1 c) hn)).symm⟩
  obtain ⟨a, h1, h2⟩ := (rFn_ok (callN m) (newN m) I (.oinst cls [] :: args)).obs (e m (Nat.le_of_succ_le_succ hn))
  rw [hc, h1]; exact h2
section
variable {n : Nat}
theorem new_vec3 (hn : 1 ≤ n) (k : String) (it at_ : D) : newN n .vector [.frz (.str k), .frz it, .frz at_] = some (vecT k (.frz it) (.frz at_)) :=
  news (c := 0) hn (fun m => by rw [newN]) fun n _ => []
theorem new_vec2 (hn : 1 ≤ n) (k : String) (it : D) : newN n .vector [.frz (.str k), .frz it] = some (vecT k (.frz it) (.frz .none)) :=
  news (c := 0) hn (fun m => by rw [newN]) fun n _ => []
theorem new_null (hn : 1 ≤ n) : newN n .null [] = some nullT := news (c := 0) hn (fun m => by rw [newN]) fun n _ => []
end
noncomputable def nvF {d n : Nat} (hn : d ≤ n) (k : String) (it : D) (e : Nat.ble 1 d = true := by exact rfl) : Option Fact := tF (new_vec2 (Nat.le_trans (Nat.le_of_ble_eq_true e) hn) k it)
theorem null_ok : Rets 2 .f_null [] nullT := rets rfl fun n hn => [tF (new_null hn)]
section
variable {l ns : List D}
theorem character_ok (hl : l.length ≤ 1000) : Rets 2 .f_character [.frz (.list l)] (vecT "character" (.frz (.list l)) (.frz .none)) := rets rfl fun n hn => [cpF hl, zlF l, nvF hn "character" (.list l)]
theorem integer_ok (hl : l.length ≤ 1000) : Rets 2 .f_integer [.frz (.list l)] (vecT "integer" (.frz (.list l)) (.frz .none)) := rets rfl fun n hn => [cpF hl, zlF l, nvF hn "integer" (.list l)]
theorem double_ok (hl : l.length ≤ 1000) : Rets 2 .f_double [.frz (.list l)] (vecT "double" (.frz (.list l)) (.frz .none)) := rets rfl fun n hn => [cpF hl, zlF l, nvF hn "double" (.list l)]
theorem named_doubles_ok (hl : l.length ≤ 1000) (hn : ns.length ≤ 1000) : Rets 3 .f_named_doubles [.frz (.list l), .frz (.list ns)] (vecT "double" (.frz (.list l)) (.odict [("names", .frz (chD ns))])) :=
  rets rfl fun n h => [cF h (double_ok hl) rfl, cF h (character_ok hn) rfl, none]
noncomputable def Sh (d : D) : Prop := d = nullD ∨ ∃ k it at_, d = vecD k it at_
theorem share_ok {d : D} (h : Sh d) : Rets 1 .f_share [.frz d] (.frz d) := by
  rcases h with rfl | ⟨k, it, at_, rfl⟩
  · exact rets rfl fun n hn => []
  · exact rets rfl fun n hn => [none]
theorem named_ok {k : String} {it : D} (hl : ns.length ≤ 1000) : Rets 3 .f_named [vecT k (.frz it) (.frz .none), .frz (.list ns)] (vecT k (.frz it) (.odict [("names", .frz (chD ns))])) :=
  rets rfl fun n h => [cF h (character_ok hl) rfl, none]
theorem list_of_ok (hl : l.length ≤ 1000) (hn : ns.length ≤ 1000) (hs : ∀ d, d ∈ l → Sh d) : Rets 4 .f_list_of [.frz (.list l), .frz (.list ns)] (vecT "list" (.frz (.list l)) (.odict [("names", .frz (chD ns))])) :=
  rets rfl fun n h => [qF (ev_compL (cf := callN n) (cn := newN n) (i := 2) (it := .ex (.pu (.var 0))) (elt := .call .f_share [(.pu (.var 2))]) (σ := [some (.frz (.list l)), some (.frz (.list ns)), none]) l id id (run_i [] (f := (l.map id, _)) (by rw [List.map_id]; kernel_rfl)) hl
      fun d hd => run_e [cF h (share_ok (hs d hd)) rfl]), zF (t := .olist ((l.map id).map .frz)) (d := .list l) (by rw [List.map_id]; exact freeze_l l), nvF h "list" (.list l), cF h (named_ok (k := "list") (it := .list l) hn) rfl]
theorem get_attr_ok {k : String} {it : D} {l : List (String × D)} (nm : String) : Rets 1 .f_get_attr [.frz (vecD k it (.dict l)), .frz (.str nm)] (.frz ((l.lookup nm).getD .none)) := rets rfl fun n hn => []
theorem get_attr_is (k : String) (it : D) {d : D} {l : List (String × D)} {nm : String} (h : (l.lookup nm).getD .none = d) : Rets 1 .f_get_attr [.frz (vecD k it (.dict l)), .frz (.str nm)] (.frz d) := h ▸ get_attr_ok nm
theorem get_attr_none (k : String) (it : D) (nm : String) : Rets 1 .f_get_attr [.frz (vecD k it .none), .frz (.str nm)] (.frz .none) := rets rfl fun n hn => []
theorem dim_of_ok (k : String) (it : D) {l : List (String × D)} (h : (l.lookup "dim").getD .none = .none) : Rets 2 .f_dim_of [.frz (vecD k it (.dict l))] (.frz .none) := rets rfl fun n hn => [cF hn (get_attr_is k it h) rfl]
theorem dim_of_none (k : String) (it : D) : Rets 2 .f_dim_of [.frz (vecD k it .none)] (.frz .none) := rets rfl fun n hn => [cF hn (get_attr_none k it "dim") rfl]
theorem names_of_ok (it : D) {l : List (String × D)} (h : (l.lookup "dim").getD .none = .none) (h2 : (l.lookup "names").getD .none = chD ns) (hl : ns.length ≤ 1000) : Rets 3 .f_names_of [.frz (vecD "list" it (.dict l))] (.frz (.list ns)) :=
  rets rfl fun n hn => [none, none, cF hn (dim_of_ok "list" it h) rfl, cF hn (get_attr_is "list" it h2) rfl, cpF hl, zlF ns]
theorem prim_nin {x : D} {l : List D} {r : Bool} (h : scalar x = true) (h2 : pyIn x l = some r) : prim .nin [.frz x, .frz (.list l)] = some (.frz (.bool (!r))) := (if_pos h).trans (by rw [h2]; rfl)
theorem prim_inn {x : D} {l : List D} {r : Bool} (h : scalar x = true) (h2 : pyIn x l = some r) : prim .inn [.frz x, .frz (.list l)] = some (.frz (.bool r)) := (if_pos h).trans (by rw [h2]; rfl)
theorem prim_index {x : String} {j : Nat} (hl : ns.length ≤ 1000) (hix : (strList ns).bind (sIndex x) = some j) : prim .index [.frz (.list ns), .frz (.str x)] = some (.frz (.int j)) :=
  (if_pos hl).trans (bindv hix fun ss h1 h2 => by rw [h1]; show (sIndex x ss).bind _ = _; rw [h2]; rfl)
theorem part_ok {its : List D} {l : List (String × D)} {x : String} {j : Nat} {d : D} (h : (l.lookup "dim").getD .none = .none) (h2 : (l.lookup "names").getD .none = chD ns) (hl : ns.length ≤ 1000)
    (hin : pyIn (.str x) ns = some true) (hix : (strList ns).bind (sIndex x) = some j) (hj : its[j]? = some d) (hjl : Nat.ble j 1000 = true) : Rets 4 .f_part [.frz (vecD "list" (.list its) (.dict l)), .frz (.str x)] (.frz d) :=
  rets rfl fun n hn => [cF hn (names_of_ok (.list its) h h2 hl) rfl, none, tF (prim_nin rfl hin), tF (prim_index hl hix), tF (item_list (Nat.le_of_ble_eq_true hjl) hj)]
theorem part_none {its : List D} {l : List (String × D)} {x : String} (h : (l.lookup "dim").getD .none = .none) (h2 : (l.lookup "names").getD .none = chD ns) (hl : ns.length ≤ 1000)
    (hin : pyIn (.str x) ns = some false) : Rets 4 .f_part [.frz (vecD "list" (.list its) (.dict l)), .frz (.str x)] (.frz .none) :=
  rets rfl fun n hn => [cF hn (names_of_ok (.list its) h h2 hl) rfl, none, tF (prim_nin rfl hin)]
end
end MineP.Internal
end
section
set_option maxRecDepth 10000
namespace MineP.Internal
open Mine.Internal
theorem xs_ext {cf : Cf} {cn : Cn} {i : Nat} {e : E} {σ : Sg} {a k : Nat} {f g : Nat → D} (he : ev cf cn e σ = some (.frz (fl k g), σ)) (hg : gv σ i = some (ol a f)) (hl : a + k ≤ 1000)
    (h : ∀ j, j < k → f (a + j) = g j) : xs cf cn (.ext i e) σ = some (.next (σ.set i (some (ol (a + k) f)))) := by
  show (isOl (gv σ i)).bind _ = _
  rw [hg]
  show (ev cf cn e σ).bind _ = _
  rw [he]
  show (gv σ i).bind _ = _
  rw [hg]
  refine (if_pos (by rw [List.length_map, rg_length, rg_length]; exact hl)).trans ?_
  have e : rg (a + k) f = rg a f ++ rg k g := by
    rw [← rg_congr (f := fun j => f (a + j)) h, rg, rg, rg, List.range_add, List.map_append, List.map_map]; rfl
  rw [ol, e, List.map_append]
noncomputable def flat (k : Nat) (K : Nat → Nat → D) (q : Nat) : D := K (q / k) (q % k)
theorem flat_at {k i j : Nat} {K : Nat → Nat → D} (hj : j < k) : flat k K (k * i + j) = K i j := by
  unfold flat
  rw [Nat.mul_add_div (Nat.lt_of_le_of_lt (Nat.zero_le _) hj), Nat.div_eq_of_lt hj, Nat.add_zero, Nat.mul_add_mod, Nat.mod_eq_of_lt hj]
noncomputable def matT (c k : Nat) (K : Nat → Nat → D) (rn cn : List D) : T := vecT "double" (.frz (fl (k * c) (flat k K))) (.odict [("dim", .frz (inD [.int k, .int c])), ("dimnames", vecT "list" (.frz (.list [chD rn, chD cn])) (.frz .none))])
noncomputable def matD (c k : Nat) (K : Nat → Nat → D) (rn cn : List D) : D := vecD "double" (fl (k * c) (flat k K)) (.dict [("dim", inD [.int k, .int c]), ("dimnames", vecD "list" (.list [chD rn, chD cn]) .none)])
theorem matrix_value_ok {c k : Nat} {K : Nat → Nat → D} {rn cn : List D} (hc : c ≤ 5) (hk : k ≤ 5) (hrn : rn.length = k) (hcn : cn.length ≤ 1000) :
    Rets 3 .f_matrix_value [.frz (fl c fun i => fl k (K i)), .frz (.list rn), .frz (.list cn)] (matT c k K rn cn) := by
  have hb : ∀ {i}, i < c → k * i + k ≤ 1000 := fun {i} h => Nat.le_trans (Nat.mul_le_mul hk (show i + 1 ≤ 5 from Nat.le_trans h hc)) (by decide)
  have hl : (rg (k * c) (flat k K)).length ≤ 1000 := by rw [rg_length]; exact Nat.le_trans (Nat.mul_le_mul hk hc) (by decide)
  exact rets rfl fun n hn => [
    sF (loop_ok (cf := callN n) (cn := newN n) (stm b_f_matrix_value 1) (n := c) (g := fun i => fl k (K i)) (fun i => [some (.frz (fl c fun i => fl k (K i))), some (.frz (.list rn)), some (.frz (.list cn)), some (ol (k * i) (flat k K)), none, none, none, none, none]) [] fun i hi =>
      [sF (xs_ext (cf := callN n) (cn := newN n) (i := 3) (e := .pu (.var 4)) (σ := [some (.frz (fl c fun i => fl k (K i))), some (.frz (.list rn)), some (.frz (.list cn)), some (ol (k * i) (flat k K)), some (.frz (fl k (K i))), none, none, none, none]) (a := k * i) (k := k) (f := flat k K) (g := K i) rfl rfl (hb hi) fun j hj => flat_at hj)]),
    tF (len_list (l := rn) hrn (le1000 hk)), zoF (k * c) (flat k K), cF hn (double_ok hl) rfl,
    qF (ev_compL (cf := callN n) (cn := newN n) (i := 8) (it := .ex (.tup [(.pu (.var 1)), (.pu (.var 2))])) (elt := .frz (.ite (.pu .isn (.var 8) (.cst .none)) (.call .f_null []) (.call .f_character [(.pu (.var 8))])))
      (σ := [some (.frz (fl c fun i => fl k (K i))), some (.frz (.list rn)), some (.frz (.list cn)), some (.frz (fl (k * c) (flat k K))), none, some (.frz (.int k)), some (vecT "double" (.frz (fl (k * c) (flat k K))) (.frz .none)), none, none])
      [rn, cn] (fun l => .list l) chD rfl (Nat.le_of_ble_eq_true rfl) fun l hl => run_e [cF hn (character_ok (l := l) (by
        rcases List.mem_cons.1 hl with rfl | hl
        · rw [hrn]; exact le1000 hk
        · rw [List.mem_singleton.1 hl]; exact hcn)) rfl, none]),
    zlF [chD rn, chD cn], lnF (fun i => fl k (K i)) (Nat.le_trans hc (by decide)), none, cF hn (integer_ok (l := [.int k, .int c]) (Nat.le_of_ble_eq_true rfl)) rfl, none,
    nvF hn "list" (.list [chD rn, chD cn]), none]
noncomputable def plc (r : Nat) (p : Nat → Nat) (x : Nat) : Option Nat := (List.range r).find? fun a => p a == x
theorem plc_some {r : Nat} {p : Nat → Nat} {x a : Nat} (h : plc r p x = some a) : a < r ∧ p a = x := ⟨List.mem_range.1 (List.mem_of_find?_eq_some h), eq_of_beq (List.find?_some (p := fun a => p a == x) h)⟩
theorem plc_at {r : Nat} {p : Nat → Nat} (hp : ∀ i k, i < k → k < r → p i < p k) {a : Nat} (ha : a < r) : plc r p (p a) = some a := by
  cases h : plc r p (p a) with
  | none => exact absurd (List.find?_eq_none.1 h a (List.mem_range.2 ha)) (by simp)
  | some b =>
    obtain ⟨h1, h2⟩ := plc_some h
    rcases Nat.lt_trichotomy a b with q | q | q
    · exact absurd h2 (Nat.ne_of_gt (hp a b q h1))
    · rw [q]
    · exact absurd h2 (Nat.ne_of_lt (hp b a q ha))
noncomputable def plL (l : List Nat) (p : Nat → Nat) : List (Int × D) := l.map fun i => ((p i : Int), .int i)
theorem lookup_plL (l : List Nat) (p : Nat → Nat) (x : Nat) : (plL l p).lookup (x : Int) = (l.find? fun a => p a == x).map fun a => .int a := by
  induction l with
  | nil => rfl
  | cons a l ih =>
    show List.lookup (x : Int) (((p a : Int), _) :: plL l p) = _
    rw [List.lookup_cons, List.find?_cons, ih]
    by_cases h : p a = x
    · rw [h, beq_self_eq_true, beq_self_eq_true]; rfl
    · rw [beq_false_of_ne (a := (x : Int)) (b := (p a : Int)) (fun q => h (Int.ofNat.inj q).symm), beq_false_of_ne h]
theorem pyIn_pl (l : List Nat) (p : Nat → Nat) (x : Nat) : pyIn (.int x) (l.map fun i => .int (p i)) = some (l.find? fun a => p a == x).isSome := by
  induction l with
  | nil => rfl
  | cons a l ih =>
    rw [List.map_cons, pyIn, ih, List.find?_cons]
    show some (decide ((p a : Int) = x) || _) = _
    by_cases h : p a = x
    · rw [h, beq_self_eq_true, decide_eq_true rfl]; rfl
    · rw [beq_false_of_ne h, decide_eq_false (p := (p a : Int) = (x : Int)) (fun q => h (Int.ofNat.inj q)), Bool.false_or]
noncomputable def SPR (r : Nat) (p : Nat → Nat) (K : Nat → Nat → D) (i j : Nat) : D := match plc r p i, plc r p j with
  | some a, some b => K a b
  | _, _ => .none
section
variable {r c : Nat} {p : Nat → Nat} {K : Nat → Nat → D}
theorem pl_in (x : Nat) : prim .inn [.frz (.int x), .oidict (plL (List.range r) p)] = some (.frz (.bool (plc r p x).isSome)) := by
  show some (T.frz (D.bool ((plL (List.range r) p).lookup (x : Int)).isSome)) = _
  rw [lookup_plL, Option.isSome_map]; rfl
theorem pl_in' {x : Nat} {b : Bool} (h : (plc r p x).isSome = b) : prim .inn [.frz (.int x), .oidict (plL (List.range r) p)] = some (.frz (.bool b)) := h ▸ pl_in x
theorem pl_it {x a : Nat} (h : plc r p x = some a) : prim .item [.oidict (plL (List.range r) p), .frz (.int x)] = some (.frz (.int a)) := by
  show ((plL (List.range r) p).lookup (x : Int)).bind _ = _
  rw [lookup_plL]
  show (Option.map _ (plc r p x)).bind _ = _
  rw [h]; rfl
theorem pl_st {t : Nat} (hp : ∀ i k, i < k → k < r → p i < p k) (ht : t < r) (hr : r ≤ 500) : storeI (.frz (.int t)) (.frz (.int (p t))) (.oidict (plL (List.range t) p)) = some (.oidict (plL (List.range (t + 1)) p)) := by
  have h1 : (plL (List.range t) p).lookup (p t : Int) = none := by
    rw [lookup_plL, List.find?_eq_none.2 fun a ha => by
      have := hp a t (List.mem_range.1 ha) ht
      simp [Nat.ne_of_lt this]]; rfl
  have h2 : (plL (List.range t) p).length ≤ 500 := by rw [plL, List.length_map, List.length_range]; exact Nat.le_trans (Nat.le_of_lt ht) hr
  refine (if_pos (by rw [h1, decide_eq_true h2]; rfl)).trans ?_
  show some (T.oidict _) = _
  rw [plL, plL, List.range_succ, List.map_append]; rfl
theorem spread_ok (hr : r ≤ 500) (hc : c ≤ 1000) (hp : ∀ i k, i < k → k < r → p i < p k) :
    Rets 1 .f_spread_rows [.frz (fl r fun i => fl r (K i)), .frz (fl r fun i => .int (p i)), .frz (.int c)] (.frz (fl c fun i => fl c fun j => SPR r p K i j)) := by
  have hr' : r ≤ 1000 := Nat.le_trans hr (by decide)
  refine rets rfl fun n hn => [
    sF (loop_ok (cf := callN n) (cn := newN n) (stm b_f_spread_rows 1) (n := r) (g := fun i => .int i) (fun t => [some (.frz (fl r fun i => fl r (K i))), some (.frz (fl r fun i => .int (p i))), some (.frz (.int c)), some (.oidict (plL (List.range t) p)), none, none, none, none, none]) [lnF (fun i => .int (p i)) hr', rgF hr'] fun t ht =>
      [itF (fun i => .int (p i)) ht hr', tF (pl_st hp ht hr)]),
    sF (loop_ok (cf := callN n) (cn := newN n) (stm b_f_spread_rows 3) (n := c) (g := fun i => .int i) (fun i => [some (.frz (fl r fun i => fl r (K i))), some (.frz (fl r fun i => .int (p i))), some (.frz (.int c)), some (.oidict (plL (List.range r) p)), none, some (ol i fun i => fl c fun j => SPR r p K i j), none, none, none]) [rgF hc] fun i hi =>
      [sF (loop_by (cf := callN n) (cn := newN n) (stm (lp (stm b_f_spread_rows 3)).2.2 1) (n := c) (g := fun i => .int i) (fun j => [some (.frz (fl r fun i => fl r (K i))), some (.frz (fl r fun i => .int (p i))), some (.frz (.int c)), some (.oidict (plL (List.range r) p)), none, some (ol i fun i => fl c fun j => SPR r p K i j), some (.frz (.int (i : Int))), some (ol j fun j => SPR r p K i j), none]) [rgF hc] fun j hj => ?_),
       zoF c fun j => SPR r p K i j, apF (fun i => fl c fun j => SPR r p K i j) (Nat.le_trans (Nat.le_of_lt hi) hc)]),
    zoF c fun i => fl c fun j => SPR r p K i j]
  have hj' := Nat.le_trans (Nat.le_of_lt hj) hc
  have ap : ∀ d, SPR r p K i j = d → appendT (.frz d) (ol j fun j => SPR r p K i j) = some (ol (j + 1) fun j => SPR r p K i j) := fun d h => append_ol _ hj' h
  cases h1 : plc r p i with
  | none => exact run_ss [tF (pl_in' (congrArg Option.isSome h1)), tF (ap .none (by unfold SPR; rw [h1]))]
  | some a =>
    cases h2 : plc r p j with
    | none => exact run_ss [tF (pl_in' (congrArg Option.isSome h1)), tF (pl_in' (congrArg Option.isSome h2)), tF (ap .none (by unfold SPR; rw [h1, h2]))]
    | some b => exact run_ss [tF (pl_in' (congrArg Option.isSome h1)), tF (pl_in' (congrArg Option.isSome h2)), tF (pl_it h1), itF (fun i => fl r (K i)) (plc_some h1).1 hr', tF (pl_it h2), itF (K a) (plc_some h2).1 hr', tF (ap (K a b) (by unfold SPR; rw [h1, h2]))]
end
end MineP.Internal
end
section
set_option maxRecDepth 10000
namespace MineP.Internal
open Mine.Internal
noncomputable def termsD (free : Bool) : D := .inst .terms [("response", nullD), ("variables", .list []), ("factors", .list []), ("intercept", .bool free), ("offsets", .list [])]
noncomputable def namesN (k : Nat) : D := .str ("v" ++ toString (k : Int))
noncomputable def rowsN (k : Nat) : D := .str (toString ((k : Int) + 1))
noncomputable def designD (c m : Nat) (X : Nat → Nat → Rat) (y : Nat → Rat) (we : D) (free : Bool) (fr as_ : D) : D :=
  .inst .design [("terms", termsD free), ("frame", fr), ("columns", mD c m X), ("names", fl c namesN), ("assign", as_), ("y", vD m y), ("weights", we), ("offset", .none), ("rows", fl m rowsN)]
noncomputable def lnM {c : Nat} (m : Nat) (X : Nat → Nat → Rat) (hc : c ≤ 1000) : Option Fact := lnF (fun j => vD m (X j)) hc
noncomputable def mean (free : Bool) (m : Nat) (w fi : Nat → Rat) : Rat := if free then (sm m fun k => w k * fi k) / (sm m w) else 0
noncomputable def ssq (m : Nat) (w fi : Nat → Rat) (μ : Rat) (k : Nat) : Rat := sm k fun k => w k * ((fi k - μ) * (fi k - μ))
section
variable {hv free : Bool} {c m j : Nat} {X : Nat → Nat → Rat} {w y : Nat → Rat} {fr as_ : D} {O : OS} {st : Nat → Rat} {co : Nat → D} {fi re : Nat → Rat}
theorem fit_design_ok (hm : m ≤ 5) (hm0 : 0 < m) (hc : c ≤ 4) (hX : ∀ j, j < c → HV m 3 (X j)) (hw : HV m 2 w) (h1 : hv = false → ∀ k, w k = 1) (hp : ∀ k, k < m → 0 < w k) (hy : HV m 3 y) :
    Rets 8 .f_fit_design [.frz (designD c m X y (wD hv m w) free fr as_)] (.frz (FIT c m w X y hv)) := by
  have h := fit_ok (hv := hv) (c := c) hm hc hX hw h1 hp hy
  have h0 : (m : Int) ≠ 0 := fun q => Nat.ne_of_gt hm0 (Int.ofNat.inj q)
  cases hv with
  | false => exact rets rfl fun n hn => [lnV y (le1000 hm), eq0 h0, cF hn h rfl]
  | true => exact rets rfl fun n hn => [lnV y (le1000 hm), eq0 h0, cF hn h rfl]
theorem vcov_ok (hm : m ≤ 5) (hc : c ≤ 4) (hr : O.r ≤ 4) (hw : HV m 2 w) (h1 : hv = false → ∀ k, w k = 1) (hre : HV m 1048573 re) (G : GS m w X c O) :
    Rets 8 .f_vcov_matrix [.frz (designD c m X y (wD hv m w) free fr as_), .frz (fitD c m O st co fi re (wD hv m w))]
      (.frz (matD c c (SPR O.r O.p fun i k => qD (cK O (vaP m O.r (ip m w re re)) i k)) (rg c namesN) (rg c namesN))) := by
  have hc' : c ≤ 1000 := Le.t hc rfl
  have hl : (rg c namesN).length ≤ 1000 := by rw [rg_length]; exact hc'
  exact rets rfl fun n hn => [cF hn (covariance_ok (c := c) (st := st) (co := co) (fi := fi) hm hr hw h1 hre G) rfl, lnM m X hc', cF hn (spread_ok (c := c) (K := fun i k => qD (cK O (vaP m O.r (ip m w re re)) i k)) (Nat.le_trans hr (by decide)) hc' G.pm) rfl,
    cF hn (matrix_value_ok (c := c) (k := c) (K := SPR O.r O.p fun i k => qD (cK O (vaP m O.r (ip m w re re)) i k)) (rn := rg c namesN) (cn := rg c namesN) (Nat.le_succ_of_le hc) (Nat.le_succ_of_le hc) (rg_length c namesN) hl) rfl, none]
theorem weight_at_ok (hm : m ≤ 1000) (h1 : hv = false → ∀ k, w k = 1) {k : Nat} (hk : k < m) : Rets 1 .f_weight_at [.frz (designD c m X y (wD hv m w) free fr as_), .frz (.int k)] (.frz (rD (w k))) := by
  cases hv with
  | false => rw [h1 rfl k]; exact rets rfl fun n hn => []
  | true => exact rets rfl fun n hn => [itV w hk hm]
theorem mean_H (hm : m ≤ 5) (hw : HV m 2 w) (hfi : HV m 1048577 fi) : H 5242915 (mean free m w fi) := by
  unfold mean
  split
  · exact (H_div (H_all (A := 1048579) (L := 5242900) hm (fun k hk => (H_mul (hw k hk) (hfi k hk)).up rfl) rfl) (H_all (L := 15) hm hw rfl)).up rfl
  · exact H_zero.up rfl
theorem model_square_ok (hm : m ≤ 5) (hw : HV m 2 w) (h1 : hv = false → ∀ k, w k = 1) (hws : sm m w ≠ 0) (hfi : HV m 1048577 fi) :
    Rets 5 .f_model_square [.frz (designD c m X y (wD hv m w) free fr as_), .frz (fitD c m O st co fi re (wD hv m w))] (.frz (rD (ssq m w fi (mean free m w fi) m))) := by
  have hm' := le1000 hm
  have aW : ∀ k, k < m → Rets 1 .f_weight_at [.frz (designD c m X y (wD hv m w) free fr as_), .frz (.int k)] (.frz (rD (w k))) := fun k hk => weight_at_ok hm' h1 hk
  have hμ := mean_H (free := free) hm hw hfi
  have hA : ∀ k, k < m → H 1048579 (w k * fi k) := fun k hk => (H_mul (hw k hk) (hfi k hk)).up rfl
  have hq : ∀ {n : Nat}, 4 ≤ n → ∀ (d : D), (∀ k, k < m → Rets 1 .f_weight_at [.frz d, .frz (.int k)] (.frz (rD (w k)))) → ∀ (μ : Rat), H 5242915 μ → ∀ we, xs (callN n) (newN n) (stm b_f_model_square 4) [some (.frz d), some (.frz (fitD c m O st co fi re we)), some (.frz (.int m)), some (.frz (rD μ)), none, none, none, some (.frz (rD 0)), none] = some (.next [some (.frz d), some (.frz (fitD c m O st co fi re we)), some (.frz (.int m)), some (.frz (rD μ)), none, none, none, some (.frz (rD (ssq m w fi μ m))), none]) := by
    intro n hn d aW μ hμ we
    have hB : ∀ k, k < m → H 6291493 (fi k - μ) := fun k hk => (H_sub (hfi k hk) hμ).up rfl
    have hC : ∀ k, k < m → H 12582988 (w k * ((fi k - μ) * (fi k - μ))) := fun k hk => (H_mul (hw k hk) (H_mul (hB k hk) (hB k hk))).up rfl
    exact loop_ok (cf := callN n) (cn := newN n) (stm b_f_model_square 4) (n := m) (g := fun i => .int i) (fun k => [some (.frz d), some (.frz (fitD c m O st co fi re we)), some (.frz (.int m)), some (.frz (rD μ)), none, none, none, some (.frz (rD (ssq m w fi μ k))), none]) [rgF hm'] fun k hk =>
      [itV fi hk hm', subF hn (hfi k hk) hμ, cF hn (aW k hk) rfl, mulF hn (hB k hk) (hB k hk), mulF hn (hw k hk) (H_mul (hB k hk) (hB k hk)), addF hn (H_part (L := 50331956) hm hk hC rfl) (hC k hk)]
  cases free with
  | false => exact rets rfl fun n hn => [lnV fi hm', sF (hq hn (designD c m X y (wD hv m w) false fr as_) aW (mean false m w fi) hμ (wD hv m w))]
  | true => exact rets rfl fun n hn => [lnV fi hm',
      sF (loop_ok (cf := callN n) (cn := newN n) (stm (brA (unf (stm b_f_model_square 2))) 2) (n := m) (g := fun i => .int i) (fun k => [some (.frz (designD c m X y (wD hv m w) true fr as_)), some (.frz (fitD c m O st co fi re (wD hv m w))), some (.frz (.int m)), some (.frz (rD 0)), some (.frz (rD (sm k fun k => w k * fi k))), some (.frz (rD (sm k w))), none, none, none]) [rgF hm'] fun k hk =>
        [cF hn (aW k hk) rfl, itV fi hk hm', mulF hn (hw k hk) (hfi k hk), addF hn (H_part (L := 4194320) hm hk hA rfl) (hA k hk), cF hn (aW k hk) rfl, addF hn (H_part (L := 12) hm hk hw rfl) (hw k hk)]),
      divF hn (H_all (L := 5242900) hm hA rfl) (H_all (L := 15) hm hw rfl) hws,
      sF (hq hn (designD c m X y (wD hv m w) true fr as_) aW (mean true m w fi) hμ (wD hv m w))]
end
end MineP.Internal
end
section
set_option maxRecDepth 10000
namespace MineP.Internal
open Mine.Internal
noncomputable def two (a b : Nat → D) (i : Nat) : Nat → D := if i = 0 then a else b
noncomputable def evL : List D := [.str "Estimate", .str "Variance"]
noncomputable def nmL (O : OS) : List D := rg O.r fun i => namesN (O.p i)
noncomputable def coD (O : OS) (co : Nat → D) (va : Q) : D := matD 2 O.r (two (fun i => co (O.p i)) fun i => qD (cK O va i i)) (nmL O) evL
noncomputable def fr1 (free : Bool) : Nat := if free then 1 else 0
noncomputable def resD (m : Nat) (re : Nat → Rat) : D := vecD "double" (vD m re) (.dict [("names", chD (rg m rowsN))])
noncomputable def dbD (z : D) : D := vecD "double" (.list [z]) .none
noncomputable def fstL (zf : D) (st df : Int) : List D := [zf, qD (st, 1), qD (df, 1)]
noncomputable def fstD (zf : D) (st df : Int) : D := vecD "double" (.list (fstL zf st df)) (.dict [("names", chD [.str "value", .str "numdf", .str "dendf"])])
noncomputable def snL : Bool → List D
  | true => [.str "call", .str "residuals", .str "coefficients", .str "sigma2", .str "df", .str "r.squared", .str "adj.r.squared", .str "fstatistic", .str "cov.unscaled"]
  | false => [.str "call", .str "residuals", .str "coefficients", .str "sigma2", .str "df", .str "r.squared", .str "adj.r.squared", .str "cov.unscaled"]
noncomputable def siL (a1 a2 zv a4 zs za fs cv : D) : Bool → List D
  | true => [nullD, a1, a2, zv, a4, zs, za, fs, cv]
  | false => [nullD, a1, a2, zv, a4, zs, za, cv]
noncomputable def sumD (b : Bool) (a1 a2 zv a4 zs za fs cv : D) : D := vecD "list" (.list (siL a1 a2 zv a4 zs za fs cv b)) (.dict [("names", chD (snL b)), ("class", chD [.str "summary.lm"])])
noncomputable def shP (T U : Rat) : Q := divP (rp (T - U)) (rp T)
noncomputable def adP (T U : Rat) (n df : Int) : Q := addP (1, 1) (negP (mulP (addP (1, 1) (negP (shP T U))) (divP (n, 1) (df, 1))))
noncomputable def cvD (O : OS) : D := matD O.r O.r (fun i k => rD (uC O i k)) (nmL O) (nmL O)
theorem shc {x : D} {l : List D} (h : Sh x) (hl : ∀ d, d ∈ l → Sh d) : ∀ d, d ∈ x :: l → Sh d := fun d hd => (List.mem_cons.1 hd).elim (fun e => e ▸ h) (hl d)
theorem shv (k : String) (it at_ : D) : Sh (vecD k it at_) := .inr ⟨_, _, _, rfl⟩
section
variable {hv free : Bool} {c m : Nat} {X : Nat → Nat → Rat} {w y : Nat → Rat} {fr as_ : D} {O : OS} {st : Nat → Rat} {co : Nat → D} {fi re : Nat → Rat}
theorem coef_ok (hm : m ≤ 5) (hc : c ≤ 4) (hr : O.r ≤ 4) (hw : HV m 2 w) (h1 : hv = false → ∀ k, w k = 1) (hre : HV m 1048573 re) (G : GS m w X c O) :
    Rets 8 .f_coefficient_matrix [.frz (designD c m X y (wD hv m w) free fr as_), .frz (fitD c m O st co fi re (wD hv m w))] (.frz (coD O co (vaP m O.r (ip m w re re)))) := by
  have hr' : O.r ≤ 1000 := Le.t hr rfl
  have hc' : c ≤ 1000 := Le.t hc rfl
  have hcov := covariance_ok (c := c) (st := st) (co := co) (fi := fi) hm hr hw h1 hre G
  generalize vaP m O.r (ip m w re re) = va at hcov
  generalize wD hv m w = we at hcov
  exact rets rfl fun n hn => [cF hn hcov rfl,
    qF (comp_ok (cf := callN n) (cn := newN n) (unz (xE (stm b_f_coefficient_matrix 1))) (n := O.r) (g := fun i => .int (O.p i)) (fun i => namesN (O.p i)) [some (.frz (designD c m X y we free fr as_)), some (.frz (fitD c m O st co fi re we)), some (.frz (fl O.r fun i => fl O.r fun k => qD (cK O va i k))), none, none, none, none, none] hr' [] fun k hk => [itF namesN (G.pj k hk) hc']),
    zoF O.r fun i => namesN (O.p i),
    qF (comp_ok (cf := callN n) (cn := newN n) (unz (xE (stm b_f_coefficient_matrix 2))) (n := O.r) (g := fun i => .int (O.p i)) (fun i => co (O.p i)) [some (.frz (designD c m X y we free fr as_)), some (.frz (fitD c m O st co fi re we)), some (.frz (fl O.r fun i => fl O.r fun k => qD (cK O va i k))), some (.frz (.list (nmL O))), none, none, none, none] hr' [] fun k hk => [itF co (G.pj k hk) hc']),
    zoF O.r fun i => co (O.p i),
    qF (comp_ok (cf := callN n) (cn := newN n) (.comp 7 (.range [(.pu (.op (.attr "rank") [(.var 1)]))]) none (.pu (.op .item [(.op .item [(.var 2), (.var 7)]), (.var 7)]))) (n := O.r) (g := fun i => .int i) (fun i => qD (cK O va i i)) [some (.frz (designD c m X y we free fr as_)), some (.frz (fitD c m O st co fi re we)), some (.frz (fl O.r fun i => fl O.r fun k => qD (cK O va i k))), some (.frz (.list (nmL O))), some (.frz (fl O.r fun i => co (O.p i))), none, none, none] hr' [rgF hr'] fun k hk => [itF (fun i => fl O.r fun k => qD (cK O va i k)) hk hr', itF (fun j => qD (cK O va k j)) hk hr']),
    zoF O.r fun i => qD (cK O va i i), none, none,
    cF hn (matrix_value_ok (c := 2) (k := O.r) (K := two (fun i => co (O.p i)) fun i => qD (cK O va i i)) (rn := nmL O) (cn := evL) (by decide) (Nat.le_succ_of_le hr) (rg_length _ _) (Nat.le_of_ble_eq_true rfl)) rfl, none]
theorem summary_ok (hm : m ≤ 5) (hc : c ≤ 4) (hr : O.r ≤ 4) (hw : HV m 2 w) (h1 : hv = false → ∀ k, w k = 1) (hws : sm m w ≠ 0) (hre : HV m 1048573 re) (hfi : HV m 1048577 fi) (G : GS m w X c O) {Tt U : Rat}
    (hT : H 505 Tt) (hU : ip m w re re = U) (hE : ssq m w fi (mean free m w fi) m = Tt - U) :
    Rets 9 .f_summary_parts [.frz (designD c m X y (wD hv m w) free fr as_), .frz (fitD c m O st co fi re (wD hv m w)), .frz nullD]
      (.frz (sumD (decide (0 < (O.r : Int) - fr1 free)) (resD m re) (coD O co (vaP m O.r U)) (dbD (qD (vaP m O.r U))) (inD [.int O.r, .int ((m : Int) - O.r), .int c]) (dbD (qD (shP Tt U))) (dbD (qD (adP Tt U ((m : Int) - O.r + O.r - fr1 free) ((m : Int) - O.r)))) (fstD (qD (fvP (Tt - U) U ((O.r : Int) - fr1 free) ((m : Int) - O.r))) ((O.r : Int) - fr1 free) ((m : Int) - O.r)) (cvD O))) := by
  have hr' : O.r ≤ 1000 := Le.t hr rfl
  have hc' : c ≤ 1000 := Le.t hc rfl
  have e1 := model_square_ok (c := c) (X := X) (y := y) (free := free) (fr := fr) (as_ := as_) (O := O) (st := st) (co := co) (re := re) hm hw h1 hws hfi
  have e2 := rss_ok (c := c) (O := O) (st := st) (co := co) (fi := fi) hm hw h1 hre rfl rfl
  have e3 := coef_ok (y := y) (free := free) (fr := fr) (as_ := as_) (st := st) (co := co) (fi := fi) hm hc hr hw h1 hre G
  have e4 := variance_ok (c := c) (st := st) (co := co) (fi := fi) hm hr hw h1 hre
  have e5 := unscaled_ok (c := c) (st := st) (co := co) (fi := fi) (re := re) (we := wD hv m w) hm hr hw G
  have hUH := ip_H hm hw hre
  rw [hE] at e1
  rw [hU] at e2 e3 e4 hUH
  have hEH := H_sub hT hUH
  have hf : fr1 free ≤ 1 := by cases free <;> decide
  have hn8 : ((m : Int) - O.r + O.r - fr1 free).natAbs ≤ 8 := by lia
  have hs8 : ((O.r : Int) - fr1 free).natAbs ≤ 8 := by lia
  have hd8 := df8 hm hr
  have o1 : HP 0 (1, 1) := HP_lit (by decide) (by decide)
  have hsh : HP 10486756 (shP Tt U) := (HP_div hEH hT).up rfl
  have hs1 := HP_add o1 (HP_neg hsh)
  have hdf := HP_div (HP_small hn8) (HP_small hd8)
  have lre : (rg m fun k => rD (re k)).length ≤ 1000 := by rw [rg_length]; exact le1000 hm
  have lro : (rg m rowsN).length ≤ 1000 := by rw [rg_length]; exact le1000 hm
  have lnm : (nmL O).length ≤ 1000 := by rw [nmL, rg_length]; exact hr'
  generalize wD hv m w = we at e1 e2 e3 e4 e5
  refine rets_x (σ := [some (.frz (designD c m X y we free fr as_)), some (.frz (fitD c m O st co fi re we)), some (.frz nullD), none, none, none, none, none, none, none, none, none, none, none, none]) rfl rfl fun n hn => seqV 3 (σ' := [some (.frz (designD c m X y we free fr as_)), some (.frz (fitD c m O st co fi re we)), some (.frz nullD), some (.frz (rD (Tt - U))), some (.frz (rD U)), some (.frz (.int (fr1 free))), none, none, none, none, none, none, none, none, none]) ?_ ?_
  · cases free
    · exact run_ss [cF hn e1 rfl, cF hn e2 rfl]
    · exact run_ss [cF hn e1 rfl, cF hn e2 rfl]
  let fx : Tr := [addE hn hEH hUH (show Tt - U + U = Tt by grind), cF hn (divP_ok hEH hT rfl) rfl, cF hn (subP_ok o1 hsh rfl) rfl, cF hn (divP_ok (HP_small hn8) (HP_small hd8) rfl) rfl, cF hn (mulP_ok hs1 hdf rfl) rfl, cF hn (subP_ok o1 (HP_mul hs1 hdf) rfl) rfl,
    qF (comp_ok (cf := callN n) (cn := newN n) (unz (xE (stm b_f_summary_parts 6))) (n := O.r) (g := fun i => .int (O.p i)) (fun i => namesN (O.p i)) [some (.frz (designD c m X y we free fr as_)), some (.frz (fitD c m O st co fi re we)), some (.frz nullD), some (.frz (rD (Tt - U))), some (.frz (rD U)), some (.frz (.int (fr1 free))), some (.frz (qD (shP Tt U))), some (.frz (.int ((O.r : Int) - fr1 free))), some (.frz (qD (adP Tt U ((m : Int) - O.r + O.r - fr1 free) ((m : Int) - O.r)))), none, none, none, none, none, none] hr' [] fun k hk => [itF namesN (G.pj k hk) hc']),
    zoF O.r fun i => namesN (O.p i),
    cF hn (named_doubles_ok lre lro) rfl, none, cF hn e3 rfl,
    cF hn e4 rfl, none, cF hn (double_ok (l := [qD (vaP m O.r U)]) (Nat.le_of_ble_eq_true rfl)) rfl, none,
    lnM m X hc', none, cF hn (integer_ok (l := [.int O.r, .int ((m : Int) - O.r), .int c]) (Nat.le_of_ble_eq_true rfl)) rfl, none,
    none, cF hn (double_ok (l := [qD (shP Tt U)]) (Nat.le_of_ble_eq_true rfl)) rfl, none,
    none, cF hn (double_ok (l := [qD (adP Tt U ((m : Int) - O.r + O.r - fr1 free) ((m : Int) - O.r))]) (Nat.le_of_ble_eq_true rfl)) rfl, none]
  let fy (b : Bool) (h : ∀ d, d ∈ siL (resD m re) (coD O co (vaP m O.r U)) (dbD (qD (vaP m O.r U))) (inD [.int O.r, .int ((m : Int) - O.r), .int c]) (dbD (qD (shP Tt U))) (dbD (qD (adP Tt U ((m : Int) - O.r + O.r - fr1 free) ((m : Int) - O.r)))) (fstD (qD (fvP (Tt - U) U ((O.r : Int) - fr1 free) ((m : Int) - O.r))) ((O.r : Int) - fr1 free) ((m : Int) - O.r)) (cvD O) b → Sh d) (hl : (siL (resD m re) (coD O co (vaP m O.r U)) (dbD (qD (vaP m O.r U))) (inD [.int O.r, .int ((m : Int) - O.r), .int c]) (dbD (qD (shP Tt U))) (dbD (qD (adP Tt U ((m : Int) - O.r + O.r - fr1 free) ((m : Int) - O.r)))) (fstD (qD (fvP (Tt - U) U ((O.r : Int) - fr1 free) ((m : Int) - O.r))) ((O.r : Int) - fr1 free) ((m : Int) - O.r)) (cvD O) b).length ≤ 1000) (hl' : (snL b).length ≤ 1000) : Tr :=
    [cF hn e5 rfl, cF hn (matrix_value_ok (c := O.r) (k := O.r) (K := fun i k => rD (uC O i k)) (rn := nmL O) (cn := nmL O) (Nat.le_succ_of_le hr) (Nat.le_succ_of_le hr) (rg_length _ _) lnm) rfl, none, none, none,
     none, none, cF hn (list_of_ok hl hl' h) rfl, none, cF hn (character_ok (l := [.str "summary.lm"]) (Nat.le_of_ble_eq_true rfl)) rfl, none, none]
  by_cases hs : 0 < (O.r : Int) - fr1 free
  · rw [decide_eq_true hs]
    exact run_v (fx ++ [gt1 hs, cF hn (f_value_ok hEH hUH hs8 hd8 rfl rfl rfl) rfl, none, none, cF hn (named_doubles_ok (l := fstL (qD (fvP (Tt - U) U ((O.r : Int) - fr1 free) ((m : Int) - O.r))) ((O.r : Int) - fr1 free) ((m : Int) - O.r)) (ns := [.str "value", .str "numdf", .str "dendf"]) (Nat.le_of_ble_eq_true rfl) (Nat.le_of_ble_eq_true rfl)) rfl, none, none, none] ++
      fy true (shc (.inl rfl) (shc (shv _ _ _) (shc (shv _ _ _) (shc (shv _ _ _) (shc (shv _ _ _) (shc (shv _ _ _) (shc (shv _ _ _) (shc (shv _ _ _) (shc (shv _ _ _) (fun _ h => nomatch h)))))))))) (Nat.le_of_ble_eq_true rfl) (Nat.le_of_ble_eq_true rfl))
  · rw [decide_eq_false hs]
    exact run_v (fx ++ [gt0 hs] ++ fy false (shc (.inl rfl) (shc (shv _ _ _) (shc (shv _ _ _) (shc (shv _ _ _) (shc (shv _ _ _) (shc (shv _ _ _) (shc (shv _ _ _) (shc (shv _ _ _) (fun _ h => nomatch h))))))))) (Nat.le_of_ble_eq_true rfl) (Nat.le_of_ble_eq_true rfl))
end
end MineP.Internal
end
section
set_option maxRecDepth 10000
namespace MineP.Internal
open Mine.Internal
theorem pyEqL_self {f : D → D → Option Bool} : ∀ {l : List D}, (∀ d, d ∈ l → f d d = some true) → pyEqL f l l = some true
  | [], _ => rfl
  | x :: l, h => by
    show (f x x).bind _ = _
    rw [h x (.head _)]
    show (pyEqL f l l).bind _ = _
    rw [pyEqL_self fun d hd => h d (.tail _ hd)]; rfl
theorem eq_list {k : Nat} {l : List D} (h : ∀ d, d ∈ l → pyEq k d d = some true) : pyEq (k + 1) (.list l) (.list l) = some true := pyEqL_self h
theorem eq_int (k : Nat) (a : Int) : pyEq k (.int a) (.int a) = some true := by rw [pyEq_int, decide_eq_true rfl]
theorem eq_str (k : Nat) (a : String) : pyEq k (.str a) (.str a) = some true := by
  cases k <;> exact congrArg some (decide_eq_true rfl)
theorem eq_q (k : Nat) (q : Q) : pyEq (k + 1) (qD q) (qD q) = some true :=
  pyEqL_self fun d hd => by
    rcases List.mem_cons.1 hd with rfl | hd
    · exact eq_int k _
    · rw [List.mem_singleton.1 hd]; exact eq_int k _
theorem eq_rg {k n : Nat} {g : Nat → D} (h : ∀ i, i < n → pyEq k (g i) (g i) = some true) : pyEq (k + 1) (fl n g) (fl n g) = some true := eq_list fun d hd => by
  obtain ⟨i, hi, rfl⟩ := List.mem_map.1 hd
  exact h i (List.mem_range.1 hi)
theorem p_nes {a b : D} (e : a = b) (h : pyEq 4 a a = some true) : prim .ne [.frz a, .frz b] = some (.frz (.bool false)) := by
  subst e
  show (pyEq 4 a a).bind _ = _
  rw [h]; rfl
theorem p_eqs {a b : D} (e : a = b) (h : pyEq 4 a a = some true) : prim .eq [.frz a, .frz b] = some (.frz (.bool true)) := by
  subst e
  show (pyEq 4 a a).bind _ = _
  rw [h]; rfl
noncomputable def nes {a : D} (h : pyEq 4 a a = some true) : Option Fact := tF (p_nes rfl h)
noncomputable def neq {a b : Rat} (e : a = b) : Option Fact := tF (p_nes (congrArg rD e) (eq_q 3 (rp a)))
section
variable {d n A B : Nat} {x y z : Rat}
noncomputable def lmulF (hn : d ≤ n) (hx : H A x) (hy : H B y) (h : Room (A + B) := by exact rfl) (e : Nat.ble 2 d = true := by exact rfl) : Option Fact := cF hn (law_mul_ok hx hy h) e
noncomputable def laddF (hn : d ≤ n) (hx : H A x) (hy : H B y) (h : Room (A + B) := by exact rfl) (e : Nat.ble 2 d = true := by exact rfl) : Option Fact := cF hn (law_add_ok hx hy h) e
end
theorem HV_hp {m A B C L : Nat} {u v w : Nat → Rat} (hu : HV m A u) (hv : HV m B v) (hw : HV m C w) (e : Nat.ble (A + B + C) L = true) : ∀ k, k < m → H L (u k * v k * w k) := fun k hk => (H_mul (H_mul (hu k hk) (hv k hk)) (hw k hk)).up e
theorem law_dot_ok {m A B : Nat} (L : Nat) {u v w : Nat → Rat} (hm : m ≤ 5) (hu : HV m A u) (hv : HV m B v) (hw : HV m 2 w) (h1 : Room (A + B) := by exact rfl) (h2 : Room (A + B + 2) := by exact rfl) (h3 : Nat.ble (A + B + 2) L = true := by exact rfl) (h4 : Room (4 * (L + 1) + L) := by exact rfl) :
    Rets 3 .f_law_dot [.frz (vD m u), .frz (vD m v), .frz (vD m w)] (.frz (rD (ip m w u v))) := by
  have hip : ip m w u v = sm m fun k => u k * v k * w k := sm_congr fun k _ => by rw [Rat.mul_assoc, Rat.mul_comm (w k), ← Rat.mul_assoc]
  have hq := HV_hp hu hv hw h3
  have hm' := le1000 hm
  rw [hip]
  exact rets rfl fun n hn => [sF (loop_ok (cf := callN n) (cn := newN n) (stm b_f_law_dot 1) (n := m) (g := fun k => .int k) (fun k => [some (.frz (vD m u)), some (.frz (vD m v)), some (.frz (vD m w)), some (.frz (rD (sm k fun k => u k * v k * w k))), none]) [lnV u hm', rgF hm'] fun k hk =>
    [itV u hk hm', itV v hk hm', lmulF hn (hu k hk) (hv k hk) h1, itV w hk hm', lmulF hn (H_mul (hu k hk) (hv k hk)) (hw k hk) h2, laddF hn (H_part hm hk hq (Nat.ble_eq_true_of_le (Nat.le_refl _))) (hq k hk) h4])]
noncomputable def away (free : Bool) (m : Nat) (w y : Nat → Rat) (k : Nat) : Rat := y k - mean free m w y
noncomputable def tot (free : Bool) (m : Nat) (w y : Nat → Rat) : Rat := ip m w (away free m w y) (away free m w y)
noncomputable def one1 (_ : Nat) : Rat := 1
theorem ip_one {m : Nat} {w u : Nat → Rat} : ip m w u one1 = sm m fun k => w k * u k := sm_congr fun k _ => by rw [one1, Rat.mul_one, Rat.mul_comm]
theorem ip_ones {m : Nat} {w : Nat → Rat} : ip m w one1 one1 = sm m w := sm_congr fun k _ => by rw [one1, Rat.mul_one, Rat.one_mul]
section
variable {free : Bool} {m : Nat} {w y : Nat → Rat}
theorem H_mean (hm : m ≤ 5) (hw : HV m 2 w) (hy : HV m 3 y) : H 45 (mean free m w y) := by
  unfold mean
  split
  · exact (H_div (H_all (L := 30) hm (fun k hk => H_mul (hw k hk) (hy k hk)) rfl) (H_all (L := 15) hm hw rfl)).up rfl
  · exact H_zero.up rfl
theorem H_away (hm : m ≤ 5) (hw : HV m 2 w) (hy : HV m 3 y) : HV m 49 (away free m w y) := fun k hk => (H_sub (hy k hk) (H_mean hm hw hy)).up rfl
theorem H_tot (hm : m ≤ 5) (hw : HV m 2 w) (hy : HV m 3 y) : H 505 (tot free m w y) := H_ip hm (H_away hm hw hy) (H_away hm hw hy) hw
theorem square_ok (hm : m ≤ 5) (hw : HV m 2 w) (hws : sm m w ≠ 0) (hy : HV m 3 y) :
    Rets 4 .f_law_square [.frz (vD m y), .frz (vD m w), .frz (.int (fr1 free))] (.frz (rD (tot free m w y))) := by
  cases free with
  | false =>
    have : tot false m w y = ip m w y y := by
      have h : ∀ k, k < m → away false m w y k = y k := fun k _ => by show y k - 0 = y k; grind
      exact ip_congr h h
    rw [this]
    exact rets rfl fun n hn => [none, cF hn (law_dot_ok 100 hm hy hy hw) rfl]
  | true =>
    have hm' := le1000 hm
    have ho : HV m 0 one1 := fun _ _ => H_one
    have hb : Rets 2 .f_law_by [.frz (rD (ip m w y one1)), .frz (rD (ip m w one1 one1))] (.frz (rD (mean true m w y))) := by
      have := law_by_ok (H_ip (L := 100) hm hy ho hw) (H_ip (L := 100) hm ho ho hw) rfl (by rw [ip_ones]; exact hws)
      rwa [show ip m w y one1 / ip m w one1 one1 = mean true m w y by rw [ip_one, ip_ones]; rfl] at this
    exact rets rfl fun n hn => [none, none, lnV y hm', rpF (rD 1) hm', zoF m fun _ => rD 1, cF hn (law_dot_ok 100 hm hy ho hw) rfl, cF hn (law_dot_ok 100 hm ho ho hw) rfl, cF hn hb rfl,
      qF (comp_ok (cf := callN n) (cn := newN n) (unz (xE (stm b_f_law_square 3))) (n := m) (g := fun k => rD (y k)) (fun k => rD (away true m w y k)) [some (.frz (vD m y)), some (.frz (vD m w)), some (.frz (.int 1)), some (.frz (vD m one1)), some (.frz (rD (mean true m w y))), none, none] hm' [] fun k hk => [cF hn (law_minus_ok (hy k hk) (H_mean (free := true) hm hw hy) rfl) rfl]),
      zoF m fun k => rD (away true m w y k), cF hn (law_dot_ok 200 hm (H_away (free := true) hm hw hy) (H_away (free := true) hm hw hy) hw) rfl]
end
theorem ss_law {free : Bool} {c m : Nat} {X : Nat → Nat → Rat} {w y : Nat → Rat} {O : OS} {re f : Nat → Rat}
    (G : GS m w X c O) (S : TS m w O y O.r re f) (hws : sm m w ≠ 0) (hf : free = true → 0 < c ∧ ∀ k, k < m → X 0 k = 1) :
    ssq m w (fun k => y k - re k) (mean free m w fun k => y k - re k) m = tot free m w y - ip m w re re := by
  have h1 : ip m w (fun k => y k - re k) re = 0 := by
    rw [ip_congr (u' := fun k => sm O.r fun t => f t * O.b t k) (v' := re) (fun k hk => by rw [S.eq k hk]; grind) (fun _ _ => rfl), ip_sm]
    exact sm_zero fun t ht => by rw [ip_comm, S.orth t ht, Rat.mul_zero]
  have h2 : free = true → ip m w re one1 = 0 := by
    intro hfr
    obtain ⟨hc, hX⟩ := hf hfr
    have hx : ip m w (X 0) (X 0) ≠ 0 := by rw [ip_congr (u' := one1) (v' := one1) hX hX, ip_ones]; exact hws
    obtain ⟨hr, hp⟩ := G.first hc hx
    have hb : ∀ k, k < m → one1 k = O.b 0 k := fun k hk => by
      have := G.eq 0 hr k hk
      rw [hp, hX k hk, sm, Rat.add_zero] at this
      exact this
    rw [ip_congr (u' := re) (v' := O.b 0) (fun _ _ => rfl) hb]
    exact S.orth 0 hr
  have hμ : (mean free m w fun k => y k - re k) = mean free m w y := by
    cases free with
    | false => rfl
    | true =>
      have := h2 rfl
      rw [ip_one] at this
      show (sm m fun k => w k * (y k - re k)) / sm m w = (sm m fun k => w k * y k) / sm m w
      rw [sm_congr (f := fun k => w k * (y k - re k)) (g := fun k => w k * y k + (-1) * (w k * re k)) fun k _ => by grind, sm_add, sm_mul, this, Rat.mul_zero, Rat.add_zero]
  rw [hμ]
  have h3 : mean free m w y * ip m w re one1 = 0 := by
    cases free with
    | false => exact Rat.zero_mul _
    | true => rw [h2 rfl, Rat.mul_zero]
  have h4 : tot free m w y = sm m fun k => (w k * ((y k - re k - mean free m w y) * (y k - re k - mean free m w y)) + 2 * ((y k - re k) * w k * re k)) + ((-2) * (mean free m w y * (re k * w k * one1 k)) + re k * w k * re k) := sm_congr fun k _ => by
    show (y k - mean free m w y) * w k * (y k - mean free m w y) = _
    generalize mean free m w y = μ
    unfold one1; grind
  rw [h4, sm_add, sm_add, sm_add, sm_mul, sm_mul, sm_mul]
  unfold ip at h1 h3 ⊢
  rw [h1, h3, Rat.mul_zero, Rat.mul_zero, Rat.add_zero, Rat.zero_add]
  show _ = _ + _ - _
  unfold ssq; grind
end MineP.Internal
end
section
set_option maxRecDepth 10000
namespace MineP.Internal
open Mine.Internal
theorem nin_pl {r : Nat} {p : Nat → Nat} {x : Nat} {b : Bool} (h : (plc r p x).isSome = b) : prim .nin [.frz (.int x), .frz (fl r fun i => .int (p i))] = some (.frz (.bool (!b))) :=
  prim_nin (l := rg r fun i => .int (p i)) rfl (by rw [rg, pyIn_pl, ← h]; rfl)
theorem SPR_at {r : Nat} {p : Nat → Nat} {K : Nat → Nat → D} (hp : ∀ i k, i < k → k < r → p i < p k) {a b : Nat} (ha : a < r) (hb : b < r) : SPR r p K (p a) (p b) = K a b := by
  unfold SPR; rw [plc_at hp ha, plc_at hp hb]
theorem SPR_none1 {r : Nat} {p : Nat → Nat} {K : Nat → Nat → D} {i j : Nat} (h : plc r p i = none) : SPR r p K i j = .none := by unfold SPR; rw [h]
theorem SPR_none2 {r : Nat} {p : Nat → Nat} {K : Nat → Nat → D} {i j : Nat} (h : plc r p j = none) : SPR r p K i j = .none := by
  unfold SPR; rw [h]
  cases plc r p i <;> rfl
theorem SPR_some {r : Nat} {p : Nat → Nat} {K : Nat → Nat → D} {i j a b : Nat} (h : plc r p i = some a) (h' : plc r p j = some b) : SPR r p K i j = K a b := by unfold SPR; rw [h, h']
theorem fits_small {a b : Nat} (ha : a ≤ 8) (hb : b ≤ 8) : fitsMul (a : Int) b = true := fits_of (A := 3) (B := 3) ha hb rfl
theorem iR_inv (U : Rat) (d : Int) : U * Rat.divInt 1 d = U / iR d := by
  rw [Rat.div_def, Rat.inv_def]
  simp [iR]
noncomputable def lcS (F d wv left used : D) (c : Nat) (told : D) (x7 x8 x9 x10 x11 x12 x13 x14 x15 : Option T) : Sg := [some (.frz F), some (.frz d), some (.frz wv), some (.frz left), some (.frz used), some (.frz (.int c)), some (.frz told), x7, x8, x9, x10, x11, x12, x13, x14, x15, none, none, none, none, none, none, none]
noncomputable def dS (d : D) : Option T := some (.frz d)
noncomputable def iS (i : Nat) : Option T := some (.frz (.int i))
section
variable {hv free : Bool} {c m : Nat} {X : Nat → Nat → Rat} {w y : Nat → Rat} {fr as_ : D} {O : OS} {st : Nat → Rat} {co : Nat → D} {fi re : Nat → Rat}
theorem law_covariance_ok (hm : m ≤ 5) (hc : c ≤ 4) (hr : O.r ≤ 4) (hX : ∀ j, j < c → HV m 3 (X j)) (hw : HV m 2 w) (h1 : hv = false → ∀ k, w k = 1) (hre : HV m 1048573 re) (G : GS m w X c O) {U : Rat} (hUe : ip m w re re = U) :
    Rets 9 .f_law_covariance [.frz (fitD c m O st co fi re (wD hv m w)), .frz (designD c m X y (wD hv m w) free fr as_), .frz (vD m w), .frz (rD U)] (.frz (.bool true)) := by
  have hr' : O.r ≤ 1000 := Le.t hr rfl
  have hc' : c ≤ 1000 := Le.t hc rfl
  have hvc := vcov_ok (y := y) (free := free) (fr := fr) (as_ := as_) (st := st) (co := co) (fi := fi) hm hc hr hw h1 hre G
  have hU := ip_H hm hw hre
  have hd8 := df8 hm hr
  rw [hUe] at hvc hU
  generalize wD hv m w = we at hvc
  generalize hva : vaP m O.r U = va at hvc
  generalize hK : (fun i k => qD (cK O va i k)) = K at hvc
  let told : D := matD c c (SPR O.r O.p K) (rg c namesN) (rg c namesN)
  let used : D := fl O.r fun i => vD m (X (O.p i))
  let rows : D := fl c fun up => fl c fun down => SPR O.r O.p K down up
  let Z (x7 x8 x9 x10 x11 x12 x13 x14 x15 : Option T) : Sg := lcS (fitD c m O st co fi re we) (designD c m X y we free fr as_) (vD m w) (rD U) used c told x7 x8 x9 x10 x11 x12 x13 x14 x15
  have hlp : ∀ n, 8 ≤ n → xs (callN n) (newN n) (stm b_f_law_covariance 5) (Z (dS rows) none none none none none none none none) = some (.next (Z (dS rows) none none none none none none none none)) := fun n hn =>
    loop_ok (cf := callN n) (cn := newN n) (stm b_f_law_covariance 5) (n := c) (g := fun i => .int i) (fun _ => Z (dS rows) none none none none none none none none) [rgF hc'] fun up hup =>
      [sF (loop_by (cf := callN n) (cn := newN n) (unf (stm (lp (stm b_f_law_covariance 5)).2.2 0)) (n := c) (g := fun i => .int i) (fun _ => Z (dS rows) (iS up) none none none none none none none) [rgF hc'] fun down hdown => by
        cases h1 : plc O.r O.p up with
        | none => exact run_ss [tF (nin_pl (congrArg Option.isSome h1)), itF (fun up => fl c fun down => SPR O.r O.p K down up) hup hc', itEF (fun down => SPR O.r O.p K down up) hdown hc' (SPR_none2 h1), none]
        | some b => cases h2 : plc O.r O.p down with
          | none => exact run_ss [tF (nin_pl (congrArg Option.isSome h1)), tF (nin_pl (congrArg Option.isSome h2)), itF (fun up => fl c fun down => SPR O.r O.p K down up) hup hc', itEF (fun down => SPR O.r O.p K down up) hdown hc' (SPR_none1 h2), none]
          | some a => exact run_ss [tF (nin_pl (congrArg Option.isSome h1)), tF (nin_pl (congrArg Option.isSome h2)), itF (fun up => fl c fun down => SPR O.r O.p K down up) hup hc', itEF (fun down => SPR O.r O.p K down up) (d := qD (cK O va a b)) hdown hc' ((SPR_some h2 h1).trans (by rw [← hK])), none])]
  let fx (n : Nat) (hn : 8 ≤ n) : Tr := [
    qF (comp_ok (cf := callN n) (cn := newN n) (unz (xE (stm b_f_law_covariance 0))) (n := O.r) (g := fun i => .int (O.p i)) (fun i => vD m (X (O.p i))) [some (.frz (fitD c m O st co fi re we)), some (.frz (designD c m X y we free fr as_)), some (.frz (vD m w)), some (.frz (rD U)), none, none, none, none, none, none, none, none, none, none, none, none, none, none, none, none, none, none, none] hr' [] fun k hk => [itF (fun j => vD m (X j)) (G.pj k hk) hc']),
    zoF O.r fun i => vD m (X (O.p i)), lnM m X hc', cF hn hvc rfl, none, none, none, nes (a := .list [.int c, .int c]) (eq_list fun d hd => by
      rcases List.mem_cons.1 hd with rfl | hd
      · exact eq_int 3 _
      · rw [List.mem_singleton.1 hd]; exact eq_int 3 _),
    qF (comp_ok (cf := callN n) (cn := newN n) (unz (xE (stm b_f_law_covariance 4))) (n := c) (g := fun i => .int i) (fun up => fl c fun down => SPR O.r O.p K down up) (Z none none none none none none none none none) hc' [rgF hc'] fun up hup =>
      [qF (comp_ok (cf := callN n) (cn := newN n) (unz (cp (unz (xE (stm b_f_law_covariance 4)))).2.2.2) (n := c) (g := fun i => .int i) (fun down => SPR O.r O.p K down up) ((Z none none none none none none none none none).set 17 (iS up)) hc' [rgF hc'] fun down hdown =>
        [mulI (fits_small (Nat.le_trans (Nat.le_of_lt hdown) (Nat.le_trans hc (by decide))) (Nat.le_trans hc (by decide))), itEF (n := c * c) (k := down * c + up) (d := SPR O.r O.p K down up) (flat c (SPR O.r O.p K)) (Nat.lt_of_lt_of_le (Nat.add_lt_add_left hup _) (Nat.succ_mul down c ▸ Nat.mul_le_mul_right c hdown)) (Nat.le_trans (Nat.mul_le_mul hc hc) (by decide)) (by rw [Nat.mul_comm]; exact flat_at hup)]),
       zoF c fun down => SPR O.r O.p K down up]),
    zoF c fun up => fl c fun down => SPR O.r O.p K down up, sF (hlp n hn)]
  by_cases hd : (m : Int) - O.r = 0
  · exact rets rfl fun n hn => fx n hn ++ [eq1 hd]
  have hsc := H_div hU (H_small hd8)
  have hCK : ∀ i k, K i k = rD (uC O i k * (U / iR ((m : Int) - O.r))) := fun i k => by
    rw [← hK, ← hva]
    show qD (mulP _ (divP _ _)) = _
    rw [divP_int hd, rp_mul]; rfl
  generalize hs : U / iR ((m : Int) - O.r) = sc at hsc hCK
  have hXp : ∀ i, i < O.r → HV m 3 (X (O.p i)) := fun i hi => hX _ (G.pj i hi)
  let inn : D := fl O.r fun i => fl O.r fun j => K j i
  let crs : D := fl O.r fun i => vD O.r fun j => ip m w (X (O.p i)) (X (O.p j))
  have hCH : ∀ i k, H 17592052 (uC O i k * sc) := fun i k => (H_mul (uC_H hm hw G hr i k) hsc).up rfl
  have hlm := law_mul_pair (B := 3) (a := 1) (d := (m : Int) - O.r) hU ⟨(by decide : (1 : Int).natAbs ≤ 2 ^ 3), hd8⟩ hd rfl
  rw [iR_inv, hs] at hlm
  refine rets rfl fun n hn => fx n hn ++ [eq0 hd,
    qF (comp_ok (cf := callN n) (cn := newN n) (unz (xE (stm b_f_law_covariance 7))) (n := O.r) (g := fun i => .int (O.p i)) (fun i => fl O.r fun j => K j i) (Z (dS rows) none none none none none none none none) hr' [] fun i hi =>
      [qF (comp_ok (cf := callN n) (cn := newN n) (unz (cp (unz (xE (stm b_f_law_covariance 7)))).2.2.2) (n := O.r) (g := fun i => .int (O.p i)) (fun j => K j i) ((Z (dS rows) none none none none none none none none).set 19 (some (.frz (.int (O.p i))))) hr' [] fun j hj =>
        [itF (fun up => fl c fun down => SPR O.r O.p K down up) (G.pj i hi) hc', itEF (fun down => SPR O.r O.p K down (O.p i)) (G.pj j hj) hc' (SPR_at G.pm hj hi)]),
       zoF O.r fun j => K j i]),
    zoF O.r fun i => fl O.r fun j => K j i,
    qF (comp_ok (cf := callN n) (cn := newN n) (unz (xE (stm b_f_law_covariance 8))) (n := O.r) (g := fun i => vD m (X (O.p i))) (fun i => vD O.r fun j => ip m w (X (O.p i)) (X (O.p j))) (Z (dS rows) none none none (dS inn) none none none none) hr' [] fun i hi =>
      [qF (comp_ok (cf := callN n) (cn := newN n) (unz (cp (unz (xE (stm b_f_law_covariance 8)))).2.2.2) (n := O.r) (g := fun i => vD m (X (O.p i))) (fun j => rD (ip m w (X (O.p i)) (X (O.p j)))) ((Z (dS rows) none none none (dS inn) none none none none).set 21 (dS (vD m (X (O.p i))))) hr' [] fun j hj =>
        [cF hn (law_dot_ok 100 hm (hXp i hi) (hXp j hj) hw) rfl]),
       zoF O.r fun j => rD (ip m w (X (O.p i)) (X (O.p j)))]),
    zoF O.r fun i => vD O.r fun j => ip m w (X (O.p i)) (X (O.p j)),
    cF hn hlm rfl,
    sF (loop_ok (cf := callN n) (cn := newN n) (stm b_f_law_covariance 10) (n := O.r) (g := fun i => .int i) (fun _ => Z (dS rows) none none none (dS inn) (dS crs) (dS (rD sc)) none none) [lnF (fun i => vD m (X (O.p i))) hr', rgF hr'] fun up hup =>
      [sF (loop_by (cf := callN n) (cn := newN n) (unf (stm (lp (stm b_f_law_covariance 10)).2.2 0)) (n := O.r) (g := fun i => .int i) (fun _ => Z (dS rows) (iS up) none none (dS inn) (dS crs) (dS (rD sc)) none none) [lnF (fun i => vD m (X (O.p i))) hr', rgF hr'] fun down hdown => ?_)])]
  have hG : ∀ k, k < O.r → H 45 (ip m w (X (O.p k)) (X (O.p down))) := fun k hk => H_ip hm (hXp k hk) (hXp down hdown) hw
  have hq : ∀ k, k < O.r → H 17592097 (uC O k up * sc * ip m w (X (O.p k)) (X (O.p down))) := fun k hk => (H_mul (hCH k up) (hG k hk)).up rfl
  have hsum : (sm O.r fun k => uC O k up * sc * ip m w (X (O.p k)) (X (O.p down))) = sc * dl up down := by
    rw [← uC_cov G hup hdown, ← sm_mul]
    exact sm_congr fun k _ => by rw [uC_comm O k up]; grind
  let fl1 : Tr := [sF (loop_ok (cf := callN n) (cn := newN n) (stm (lp (unf (stm (lp (stm b_f_law_covariance 10)).2.2 0))).2.2 1) (n := O.r) (g := fun i => .int i) (fun k => Z (dS rows) (iS up) (iS down) none (dS inn) (dS crs) (dS (rD sc)) (dS (rD (sm k fun k => uC O k up * sc * ip m w (X (O.p k)) (X (O.p down))))) none) [lnF (fun i => vD m (X (O.p i))) hr', rgF hr'] fun k hk =>
      [itF (fun i => fl O.r fun j => K j i) hup hr', itEF (fun j => K j up) hk hr' (hCK k up), itF (fun i => vD O.r fun j => ip m w (X (O.p i)) (X (O.p j))) hk hr', itV (fun j => ip m w (X (O.p k)) (X (O.p j))) hdown hr', lmulF hn (hCH k up) (hG k hk), laddF hn (H_part (N := 4) (L := 70368392) (Nat.le_trans hr (by decide)) hk hq rfl) (hq k hk)])]
  by_cases h : up = down
  · exact run_ss (fl1 ++ [eq1 (congrArg Int.ofNat h), neq (hsum.trans (by rw [h, dl_same, Rat.mul_one]))])
  · exact run_ss (fl1 ++ [eq0 (fun q => h (Int.ofNat.inj q)), neq (b := 0) (hsum.trans (by rw [dl_ne h, Rat.mul_zero]))])
end
end MineP.Internal
end
section
set_option maxRecDepth 10000
namespace MineP.Internal
open Mine.Internal
theorem map_rg {α : Type} (l : List α) (f : α → D) (d : α) : l.map f = rg l.length fun k => f (l[k]?.getD d) := by
  apply List.ext_getElem
  · rw [rg_length, List.length_map]
  · intro i h1 h2
    have h : i < l.length := by rwa [List.length_map] at h1
    simp [rg, h]
section
variable {cf : Cf} {cn : Cn}
theorem loop_hit (s : S) {n : Nat} {g : Nat → D} {σ : Sg} (St : Nat → Sg) (hit : evi cf cn (lp s).2.1 σ = some (rg n g, St 0))
    (hb : ∀ k, k < n → xss cf cn (lp s).2.2 ((St k).set (lp s).1 (some (.frz (g k)))) = some (.next (St (k + 1))))
    (hs : s = .loop (lp s).1 (lp s).2.1 (lp s).2.2 := by kernel_rfl) : xs cf cn s σ = some (.next (St n)) := by
  obtain ⟨σ', h1, h2⟩ := loop_inv (cf := cf) (cn := cn) (i := (lp s).1) (body := (lp s).2.2) (fun k σ => σ = St k) hit rfl (fun k σ hk e => ⟨_, by rw [e]; exact hb k hk, rfl⟩)
  rw [hs, h1, h2]
theorem compLoop_st {step : D → Sg → Option (Option T × Sg)} {i n : Nat} {g : Nat → D} {f : Nat → Option D} {St : Nat → Sg}
    (h : ∀ k x, k < n → step (g k) ((St k).set i x) = some ((f k).map .frz, (St (k + 1)).set i (some (.frz (g k))))) (x : Option T) :
    ∃ y, compLoop step (rg n g) ((St 0).set i x) = some (((List.range n).filterMap f).map .frz, (St n).set i y) := by
  have key : ∀ (m a : Nat) (x : Option T), a + m = n → ∃ y, compLoop step ((List.range' a m).map g) ((St a).set i x) = some (((List.range' a m).filterMap f).map .frz, (St n).set i y) := by
    intro m
    induction m with
    | zero => intro a x e; exact ⟨x, by rw [← e]; rfl⟩
    | succ m ih =>
      intro a x e
      obtain ⟨y, hy⟩ := ih (a + 1) (some (.frz (g a))) (by rw [← e, Nat.add_assoc, Nat.add_comm 1])
      refine ⟨y, ?_⟩
      rw [List.range'_succ, List.map_cons, compLoop, h a x (by rw [← e]; exact Nat.lt_add_of_pos_right (Nat.succ_pos m)), Option.bind_some, hy]
      cases hf : f a with
      | none => rw [List.filterMap_cons_none hf]; rfl
      | some z => rw [List.filterMap_cons_some hf]; rfl
  have := key n 0 x (Nat.zero_add n)
  rwa [← List.range_eq_range'] at this
theorem ev_compS {i : Nat} {it : It} {elt : E} {σ : Sg} {n : Nat} {g : Nat → D} (f : Nat → D) (St : Nat → Sg) (hit : evi cf cn it σ = some (rg n g, St 0)) (hl : n ≤ 1000)
    (h : ∀ k, k < n → ev cf cn elt ((St k).set i (some (.frz (g k)))) = some (.frz (f k), (St (k + 1)).set i (some (.frz (g k))))) :
    ev cf cn (.comp i it none elt) σ = some (ol n f, (St n).set i none) := by
  obtain ⟨y, hy⟩ := compLoop_st (i := i) (g := g) (f := fun k => some (f k)) (St := St) (step := fun d σ => (ev cf cn elt (σ.set i (some (.frz d)))).bind fun q => (asD q.1).bind fun x => some (some (.frz x), q.2))
    (fun k x hk => by rw [List.set_set, h k hk]; rfl) ((St 0)[i]?.join)
  rw [← set_self, List.filterMap_eq_map'] at hy
  show (evi cf cn it σ).bind _ = _
  rw [hit]
  refine (if_neg (by rw [rg_length]; lia)).trans ?_
  show Option.bind (compLoop (fun d σ => (ev cf cn elt (σ.set i (some (.frz d)))).bind fun q => (asD q.1).bind fun x => some (some (.frz x), q.2)) (rg n g) (St 0)) _ = _
  rw [hy]
  show some (T.olist _, ((St n).set i y).set i none) = _
  rw [List.set_set]; rfl
theorem comp_st (e : E) {n : Nat} {g : Nat → D} (f : Nat → D) (St : Nat → Sg) (hl : n ≤ 1000) (fi : Tr) (fb : ∀ k, k < n → Tr)
    (ei : obs id (rI cf cn (cp e).2.1 (St 0)) fi = some ((rg n g, St 0), told' (rI cf cn (cp e).2.1 (St 0)) fi) := by kernel_rfl)
    (eb : ∀ k (hk : k < n), obs id (rE cf cn (cp e).2.2.2 ((St k).set (cp e).1 (some (.frz (g k))))) (fb k hk) = some ((.frz (f k), (St (k + 1)).set (cp e).1 (some (.frz (g k)))), told' (rE cf cn (cp e).2.2.2 ((St k).set (cp e).1 (some (.frz (g k))))) (fb k hk)) := by intro k hk; kernel_rfl)
    (hs : e = .comp (cp e).1 (cp e).2.1 none (cp e).2.2.2 := by kernel_rfl) : ev cf cn e (St 0) = some (ol n f, (St n).set (cp e).1 none) := by
  have := ev_compS (cf := cf) (cn := cn) (i := (cp e).1) (elt := (cp e).2.2.2) f St (run_i fi ei) hl (fun k hk => run_e (fb k hk) (eb k hk))
  rw [← hs] at this; exact this
theorem ev_compSF {i : Nat} {it : It} {c : C} {elt : E} {σ : Sg} {n : Nat} {g : Nat → D} (p : Nat → Bool) (St : Nat → Sg) (hit : evi cf cn it σ = some (rg n g, St 0)) (hl : n ≤ 1000)
    (hc : ∀ k, k < n → ec cf cn c ((St k).set i (some (.frz (g k)))) = some (p k, (St (k + 1)).set i (some (.frz (g k)))))
    (h : ∀ k, k < n → ev cf cn elt ((St (k + 1)).set i (some (.frz (g k)))) = some (.frz (g k), (St (k + 1)).set i (some (.frz (g k))))) :
    ev cf cn (.comp i it (some c) elt) σ = some (.olist ((((List.range n).filter p).map g).map .frz), (St n).set i none) := by
  obtain ⟨y, hy⟩ := compLoop_st (i := i) (g := g) (f := fun k => if p k = true then some (g k) else none) (St := St) (step := fun d σ => (ec cf cn c (σ.set i (some (.frz d)))).bind fun b => if b.1 then (ev cf cn elt b.2).bind fun q => (asD q.1).bind fun x => some (some (.frz x), q.2) else some (none, b.2))
    (fun k x hk => by
      rw [List.set_set, hc k hk, Option.bind_some]
      cases p k with
      | false => rfl
      | true =>
        refine (if_pos rfl).trans ?_
        rw [h k hk]; rfl) ((St 0)[i]?.join)
  have hf : (List.range n).filterMap (fun a => if p a = true then some (g a) else none) = ((List.range n).filter p).map g := by
    rw [← List.filterMap_eq_map, ← List.filterMap_eq_filter, List.filterMap_filterMap]
    congr 1; funext a
    cases h : p a <;> simp [Option.guard, h]
  rw [← set_self, hf] at hy
  show (evi cf cn it σ).bind _ = _
  rw [hit]
  refine (if_neg (by rw [rg_length]; lia)).trans ?_
  show Option.bind (compLoop (fun d σ => (ec cf cn c (σ.set i (some (.frz d)))).bind fun b => if b.1 then (ev cf cn elt b.2).bind fun q => (asD q.1).bind fun x => some (some (.frz x), q.2) else some (none, b.2)) (rg n g) (St 0)) _ = _
  rw [hy]
  show some (T.olist _, ((St n).set i y).set i none) = _
  rw [List.set_set]
end
noncomputable def rowT (l : List Int) : T := .olist ((l.map D.int).map .frz)
noncomputable def nx (l : List Int) (lim : Nat) : Nat := ((l.getLast?.getD 0).fmod lim).toNat
noncomputable def dr : Nat → List Int → List Int
  | 0, l => l
  | k + 1, l => (dr k l).dropLast
theorem dr_len {l : List Int} (h : l.length ≤ 1000) : ∀ k, (dr k l).length ≤ 1000
  | 0 => h
  | k + 1 => by
    show ((dr k l).dropLast).length ≤ _
    rw [List.length_dropLast]; exact Nat.le_trans (Nat.sub_le _ _) (dr_len h k)
theorem nx_cast (l : List Int) {lim : Nat} (h : 0 < lim) : ((nx l lim : Nat) : Int) = (l.getLast?.getD 0).fmod lim := Int.toNat_of_nonneg (Int.fmod_nonneg_of_pos _ (Int.natCast_pos.2 h))
theorem nx_lt (l : List Int) {lim : Nat} (h : 0 < lim) : nx l lim < lim := by
  have := Int.fmod_lt_of_pos (l.getLast?.getD 0) (Int.natCast_pos.2 h)
  rw [← nx_cast l h] at this
  exact Int.ofNat_lt.1 this
theorem next_ok {l : List Int} {lim n : Nat} (hn : 1 ≤ n) (hl : l.length ≤ 1000) (hlim : 0 < lim) : callN n .f_law_next [rowT l, .frz (.int lim)] = some (.frz (.int (nx l lim)), [some (rowT (dr 1 l)), some (.frz (.int lim))]) := by
  have h0 : (lim : Int) ≠ 0 := fun q => Nat.ne_of_gt hlim (Int.ofNat.inj q)
  have hc : ∀ n, ec (callN n) (newN n) (.nonempty 0) [some (rowT l), some (.frz (.int lim))] = some (!l.isEmpty, [some (rowT l), some (.frz (.int lim))]) := fun n => by
    show (allD ((l.map D.int).map T.frz)).bind _ = _
    rw [allD_frz]
    show (pyEqL (pyEq 3) (l.map D.int) []).bind _ = _
    have : pyEqL (pyEq 3) (l.map .int) [] = some l.isEmpty := by
      induction l with
      | nil => rfl
      | cons x l ih =>
        rw [List.map_cons, pyEqL, eq_int, Option.bind_some, ih (Nat.le_of_succ_le hl)]; rfl
    rw [this]; rfl
  rw [nx_cast l hlim]
  rcases List.eq_nil_or_concat l with rfl | ⟨l', x, hlx⟩
  · rw [show (([] : List Int).getLast?.getD 0).fmod lim = 0 from Int.zero_fmod _]
    exact retsS (c := 0) rfl hn fun n _ => [bF (hc n)]
  · rw [List.concat_eq_append] at hlx
    subst hlx
    rw [List.getLast?_concat]
    have hp : ∀ n, ev (callN n) (newN n) (.pop 0) [some (rowT (l' ++ [x])), some (.frz (.int lim))] = some (.frz (.int x), [some (rowT l'), some (.frz (.int lim))]) := fun n => by
      refine (if_pos (by rw [List.length_map, List.length_map]; exact hl)).trans ?_
      rw [List.map_append, List.map_append]
      show ((_ ++ [T.frz (.int x)]).getLast?).bind _ = _
      rw [List.getLast?_concat]
      show some (_, [some (T.olist (_ ++ [_]).dropLast), _]) = _
      rw [List.dropLast_concat]; rfl
    have hi : (!(l' ++ [x]).isEmpty) = true := by simp
    have hd : dr 1 (l' ++ [x]) = l' := List.dropLast_concat
    have hc' := fun n => (hc n).trans (by rw [hi])
    rw [hd]
    exact retsS (c := 0) rfl hn fun n _ => [bF (hc' n), qF (hp n), modI (a := x) h0]
noncomputable def nxF {l : List Int} {lim d n : Nat} (hn : d ≤ n) (hl : l.length ≤ 1000) (hlim : 0 < lim) (e : Nat.ble 1 d = true := by exact rfl) : Option Fact := qF (next_ok (Nat.le_trans (Nat.le_of_ble_eq_true e) hn) hl hlim)
noncomputable def half : Rat := ⟨1, 2, by decide, by decide⟩
noncomputable def third : Rat := ⟨1, 3, by decide, by decide⟩
noncomputable def valR : Nat → Rat
  | 0 => 0
  | 1 => 1
  | 2 => 2
  | 3 => -1
  | 4 => half
  | _ => 3
theorem valR_H (v : Nat) : H 2 (valR v) := by
  rcases v with _ | _ | _ | _ | _ | v
  · exact H_zero.up rfl
  · exact H_one.up rfl
  · exact ⟨by decide, by decide⟩
  · exact ⟨by decide, by decide⟩
  · exact ⟨by decide, by decide⟩
  · exact show H 2 3 from ⟨by decide, by decide⟩
theorem valR_at {v : Nat} (h : v < 6) : ([rD 0, rD 1, rD 2, rD (-1), rD half, rD 3] : List D)[v]? = some (rD (valR v)) := by
  rcases v with _ | _ | _ | _ | _ | v
  · rfl
  · rfl
  · rfl
  · rfl
  · rfl
  · have : v = 0 := by lia
    subst this; rfl
theorem value_ok {l : List Int} {n : Nat} (hn : 2 ≤ n) (hl : l.length ≤ 1000) : callN n .f_law_value [rowT l] = some (.frz (rD (valR (nx l 6))), [some (rowT (dr 1 l))]) :=
  retsS (c := 1) rfl hn fun n hn => [none, nxF (lim := 6) hn hl (by decide), tF (item_list (k := nx l 6) (l := [rD 0, rD 1, rD 2, rD (-1), rD half, rD 3]) (Nat.le_trans (Nat.le_of_lt (nx_lt l (by decide))) (by decide)) (valR_at (nx_lt l (by decide))))]
end MineP.Internal
end
section
set_option maxRecDepth 10000
namespace MineP.Internal
open Mine.Internal
noncomputable def vals (l : List Int) (k : Nat) : Rat := valR (nx (dr k l) 6)
noncomputable def cR (m : Nat) (q : List Int) : Nat → List Int
  | 0 => q
  | j + 1 => if j = 0 then dr m (cR m q j) else if (nx (cR m q j) 4 : Int) = 3 then dr 1 (cR m q j) else dr m (dr 1 (cR m q j))
noncomputable def cX (m : Nat) (q : List Int) (j : Nat) : Nat → Rat := if j = 0 then vals q else if (nx (cR m q j) 4 : Int) = 3 then fun k => 2 * vals q k else vals (dr 1 (cR m q j))
theorem vals_H (m : Nat) (l : List Int) : HV m 2 (vals l) := fun k _ => valR_H _
theorem two_H : H 1 (2 : Rat) := ⟨by decide, by decide⟩
theorem cX_H (m : Nat) (q : List Int) (j : Nat) : HV m 3 (cX m q j) := by
  unfold cX
  split
  · exact (vals_H m q).up rfl
  · split
    · exact fun k hk => H_mul two_H (vals_H m q k hk)
    · exact (vals_H m _).up rfl
theorem cR_len {m : Nat} {q : List Int} (h : q.length ≤ 1000) : ∀ j, (cR m q j).length ≤ 1000
  | 0 => h
  | j + 1 => by
    show (if j = 0 then _ else if _ then _ else _ : List Int).length ≤ _
    have := cR_len (m := m) h j
    split
    · exact dr_len this _
    · split
      · exact dr_len this _
      · exact dr_len (dr_len this _) _
noncomputable def vlF {l : List Int} {d n : Nat} (hn : d ≤ n) (hl : l.length ≤ 1000) (e : Nat.ble 2 d = true := by exact rfl) : Option Fact := qF (value_ok (Nat.le_trans (Nat.le_of_ble_eq_true e) hn) hl)
theorem columns_ok {l : List Int} {m n : Nat} (hn : 3 ≤ n) (hl : l.length ≤ 1000) (hm : m ≤ 5) :
    callN n .f_law_columns [rowT l, .frz (.int m)] = some (.frz (mD (nx l 4) m (cX m (dr 1 l))), [some (rowT (cR m (dr 1 l) (nx l 4))), some (.frz (.int m)), some (.frz (mD (nx l 4) m (cX m (dr 1 l)))), none, none, none]) := by
  have hm' := le1000 hm
  have hc : nx l 4 ≤ 1000 := Nat.le_trans (Nat.le_of_lt (nx_lt l (by decide))) (by decide)
  have hd := dr_len hl 1
  refine retsS (c := 2) rfl hn fun n hn => [
    sF (loop_hit (cf := callN n) (cn := newN n) (stm b_f_law_columns 1) (n := nx l 4) (g := fun k => .int k) (σ := [some (rowT l), some (.frz (.int m)), some (ol 0 fun i => vD m (cX m (dr 1 l) i)), none, none, none]) (fun j => [some (rowT (cR m (dr 1 l) j)), some (.frz (.int m)), some (ol j fun i => vD m (cX m (dr 1 l) i)), none, none, none])
      (run_i [nxF (lim := 4) hn hl (by decide), rgF hc]) fun j hj => ?_),
    zoF (nx l 4) fun i => vD m (cX m (dr 1 l) i)]
  have hj' := Nat.le_trans (Nat.le_of_lt hj) hc
  generalize dr 1 l = q at hd
  have hr := cR_len (m := m) hd j
  have ap : ∀ u, cX m q j = u → appendT (.frz (vD m u)) (ol j fun i => vD m (cX m q i)) = some (ol (j + 1) fun i => vD m (cX m q i)) := fun u h => append_ol _ hj' (congrArg (vD m) h)
  rw [cR]
  by_cases h0 : j = 0
  · have hx : cX m q j = vals (cR m q j) := by subst h0; rfl
    rw [if_pos h0]
    subst h0
    exact run_ss [none, none, qF (comp_st (cf := callN n) (cn := newN n) (.comp 5 (.range [(.pu (.var 1))]) none (.callr .f_law_value 0 [])) (n := m) (g := fun k => .int k) (fun k => rD (vals (cR m q 0) k)) (fun k => [some (rowT (dr k (cR m q 0))), some (.frz (.int m)), some (ol 0 fun i => vD m (cX m q i)), some (.frz (.int (0 : Nat))), none, none]) hm' [rgF hm'] fun k hk => [vlF hn (dr_len hr k)]), zoF m fun k => rD (vals (cR m q 0) k), tF (ap _ hx)]
  · have hj0 : 0 < j := Nat.pos_of_ne_zero h0
    have hx : cX m q j = _ := if_neg h0
    rw [if_neg h0]
    by_cases h3 : (nx (cR m q j) 4 : Int) = 3
    · rw [if_pos h3]
      rw [if_pos h3] at hx
      exact run_ss [lnO (fun i => vD m (cX m q i)) hj', gt1 (Int.natCast_pos.2 hj0), nxF (lim := 4) hn hr (by decide), eq1 h3,
        qF (comp_ok (cf := callN n) (cn := newN n) (.comp 4 (.ex (.pu (.op .item [(.var 2), (.cst (.int 0))]))) none (.call .f_law_mul [(.tup [(.pu (.cst (.int 2))), (.pu (.cst (.int 1)))]), (.pu (.var 4))])) (n := m) (g := fun k => rD (vals q k)) (fun k => rD (2 * vals q k)) [some (rowT (dr 1 (cR m q j))), some (.frz (.int m)), some (ol j fun i => vD m (cX m q i)), some (.frz (.int j)), none, none] hm' [itO (fun i => vD m (cX m q i)) hj0 hj'] fun k hk => [lmulF hn two_H (vals_H m q k hk)]),
        zoF m fun k => rD (2 * vals q k), tF (ap _ hx)]
    · rw [if_neg h3]
      rw [if_neg h3] at hx
      have hr1 := dr_len hr 1
      exact run_ss [lnO (fun i => vD m (cX m q i)) hj', gt1 (Int.natCast_pos.2 hj0), nxF (lim := 4) hn hr (by decide), eq0 h3,
        qF (comp_st (cf := callN n) (cn := newN n) (.comp 5 (.range [(.pu (.var 1))]) none (.callr .f_law_value 0 [])) (n := m) (g := fun k => .int k) (fun k => rD (vals (dr 1 (cR m q j)) k)) (fun k => [some (rowT (dr k (dr 1 (cR m q j)))), some (.frz (.int m)), some (ol j fun i => vD m (cX m q i)), some (.frz (.int j)), none, none]) hm' [rgF hm'] fun k hk => [vlF hn (dr_len hr1 k)]),
        zoF m fun k => rD (vals (dr 1 (cR m q j)) k), tF (ap _ hx)]
theorem row_app {l : List Int} {x : Int} (hl : l.length ≤ 1000) : appendT (.frz (.int x)) (rowT l) = some (rowT (l ++ [x])) := by
  rw [rowT, append_l (by rw [List.length_map]; exact hl), rowT, List.map_append (f := D.int)]; rfl
noncomputable def raF {l : List Int} (x : Int) (hl : l.length ≤ 1000) : Option Fact := tF (row_app (x := x) hl)
theorem row_rev {cf : Cf} {cn : Cn} {i : Nat} {l : List Int} {σ : Sg} (h : gv σ i = some (rowT l)) (hl : l.length ≤ 1000) : xs cf cn (.rev i) σ = some (.next (σ.set i (some (rowT l.reverse)))) := by
  show (gv σ i).bind _ = _
  rw [h]
  refine (if_pos (by rw [List.length_map, List.length_map]; exact hl)).trans ?_
  rw [allD_frz]
  show some (Fl.next (σ.set i (some (.olist _)))) = _
  rw [← List.map_reverse]; rfl
theorem slc_list {x : List D} {k : Nat} (h : x.length ≤ 1000) (hk : Nat.ble k 1000 = true) : slcT x (k : Int) = some (.olist ((x.take k).map .frz)) := by
  unfold slcT
  rw [idx_nat (Nat.le_of_ble_eq_true hk)]
  exact if_pos h
theorem slc_row {x : List Int} {k : Nat} (h : x.length ≤ 1000) (hk : Nat.ble k 1000 = true) : slcT (x.map .int) (k : Int) = some (rowT (x.take k)) := by
  rw [slc_list (by rw [List.length_map]; exact h) hk, rowT, List.map_take (f := D.int)]
noncomputable def lap (r : List Int × Int) : Nat → List Int × Int
  | 0 => r
  | t + 1 => if 0 < (lap r t).2 then ((lap r t).1 ++ [(lap r t).2.fmod 89], (lap r t).2.fdiv 89) else lap r t
noncomputable def figS (q : List Int) (a : Int) : List Int := (lap (q ++ [a.fmod 89], a.fdiv 89) 10).1
noncomputable def figs (l : List Int) : Nat → List Int
  | 0 => []
  | k + 1 => figS (figs l k) (if 0 ≤ l[k]?.getD 0 then l[k]?.getD 0 else -(l[k]?.getD 0))
noncomputable def figR (l : List Int) : List Int := ((figs (l.take 60) (l.take 60).length).take 80).reverse
theorem lap_len (r : List Int × Int) : ∀ t, (lap r t).1.length ≤ r.1.length + t
  | 0 => Nat.le_refl _
  | t + 1 => by
    have h := lap_len r t
    show (if _ then _ else _ : List Int × Int).1.length ≤ _
    split
    · show (_ ++ [_]).length ≤ _
      rw [List.length_append]; exact Nat.succ_le_succ h
    · exact Nat.le_succ_of_le h
theorem figs_len (l : List Int) : ∀ k, (figs l k).length ≤ 11 * k
  | 0 => Nat.le_refl _
  | k + 1 => by
    refine Nat.le_trans (lap_len _ 10) ?_
    show (_ ++ [_]).length + 10 ≤ 11 * k + 11
    rw [List.length_append]
    exact Nat.add_le_add_right (Nat.add_le_add_right (figs_len l k) 1) 10
theorem figR_len (l : List Int) : (figR l).length ≤ 1000 := by
  rw [figR, List.length_reverse, List.length_take]
  exact Nat.le_trans (Nat.min_le_left _ _) (by decide)
theorem figures_ok {l : List Int} (hl : l.length ≤ 63) : Rets 1 .f_law_figures [.frz (.src (l.map .int))] (rowT (figR l)) := by
  have h89 : (89 : Int) ≠ 0 := by decide
  have hl' : (l.map D.int).length ≤ 1000 := by rw [List.length_map]; exact Nat.le_trans hl (by decide)
  have hn60 : (l.take 60).length ≤ 60 := by rw [List.length_take]; exact Nat.min_le_left _ _
  have hF : ∀ k, k ≤ (l.take 60).length → (figs (l.take 60) k).length ≤ 660 := fun k hk => Nat.le_trans (figs_len _ k) (Nat.mul_le_mul_left 11 (Nat.le_trans hk hn60))
  have hlast := Nat.le_trans (hF _ (Nat.le_refl _)) (show 660 ≤ 1000 by decide)
  refine rets rfl fun n hn => [
    sF (loop_hit (cf := callN n) (cn := newN n) (stm b_f_law_figures 1) (n := (l.take 60).length) (g := fun k => .int ((l.take 60)[k]?.getD 0)) (σ := [some (.frz (.src (l.map .int))), some (rowT []), none, none, none]) (fun k => [some (.frz (.src (l.map .int))), some (rowT (figs (l.take 60) k)), none, none, none])
      ((run_i [tF (slc_list (k := 60) hl' rfl), zlF ((l.map .int).take 60)] (f := ((l.map .int).take 60, [some (.frz (.src (l.map .int))), some (rowT []), none, none, none]))).trans (by rw [← map_rg (l.take 60) D.int 0, List.map_take]; rfl)) fun k hk => ?_),
    zlF ((figs (l.take 60) (l.take 60).length).map .int), tF (slc_row (k := 80) hlast rfl),
    sF (row_rev (cf := callN n) (cn := newN n) (i := 1) (σ := [some (.frz (.src (l.map .int))), some (rowT ((figs (l.take 60) (l.take 60).length).take 80)), none, none, none]) rfl (by rw [List.length_take]; exact Nat.le_trans (Nat.min_le_left _ _) (by decide)))]
  have hq := hF k (Nat.le_of_lt hk)
  rw [figs]
  generalize (l.take 60)[k]?.getD 0 = x
  generalize figs (l.take 60) k = q at hq
  have hq' : ∀ (a : Int) t, t ≤ 10 → (lap (q ++ [a.fmod 89], a.fdiv 89) t).1.length ≤ 1000 := fun a t ht => Nat.le_trans (lap_len _ t) (by
    show (q ++ [_]).length + t ≤ _
    rw [List.length_append]; exact Nat.le_trans (Nat.add_le_add (Nat.add_le_add_right hq 1) ht) (by decide))
  have hlo : ∀ a : Int, xs (callN n) (newN n) (unf (stm (lp (stm b_f_law_figures 1)).2.2 3)) [some (.frz (.src (l.map .int))), some (rowT (q ++ [a.fmod 89])), some (.frz (.int x)), some (.frz (.int (a.fdiv 89))), none] = some (.next [some (.frz (.src (l.map .int))), some (rowT (figS q a)), some (.frz (.int x)), some (.frz (.int (lap (q ++ [a.fmod 89], a.fdiv 89) 10).2)), none]) := fun a =>
    loop_by (cf := callN n) (cn := newN n) (unf (stm (lp (stm b_f_law_figures 1)).2.2 3)) (n := 10) (g := fun k => .int k) (fun t => [some (.frz (.src (l.map .int))), some (rowT (lap (q ++ [a.fmod 89], a.fdiv 89) t).1), some (.frz (.int x)), some (.frz (.int (lap (q ++ [a.fmod 89], a.fdiv 89) t).2)), none]) [rgF (n := 10) (by decide)] fun t ht => by
      rw [lap]
      have hl := hq' a t (Nat.le_of_lt ht)
      generalize lap (q ++ [a.fmod 89], a.fdiv 89) t = r at hl
      by_cases h : 0 < r.2
      · rw [if_pos h]
        exact run_ss [gt1 h, modI (a := r.2) h89, raF (r.2.fmod 89) hl, fdivI (a := r.2) h89]
      · rw [if_neg h]
        exact run_ss [gt0 h]
  have hq0 : q.length ≤ 1000 := Nat.le_trans hq (by decide)
  by_cases h : 0 ≤ x
  · rw [if_pos h]
    exact run_ss [geI (a := x) (b := 0) (decide_eq_true h), modI (a := x) h89, raF (x.fmod 89) hq0, fdivI (a := x) h89, sF (hlo x)]
  · rw [if_neg h]
    exact run_ss [geI (a := x) (b := 0) (decide_eq_false h), modI (a := -x) h89, raF ((-x).fmod 89) hq0, fdivI (a := -x) h89, sF (hlo (-x))]
end MineP.Internal
end
section
set_option maxRecDepth 10000
namespace MineP.Internal
open Mine.Internal
theorem new_terms {n : Nat} (hn : 1 ≤ n) (free : Bool) : newN n .terms [.frz nullD, .frz (.list []), .frz (.list []), .frz (.bool free), .frz (.list [])] = some (.oinst .terms [("response", .frz nullD), ("variables", .frz (.list [])), ("factors", .frz (.list [])), ("intercept", .frz (.bool free)), ("offsets", .frz (.list []))]) :=
  news (c := 0) hn (fun m => by rw [newN]) fun n _ => []
noncomputable def yD (m : Nat) (y : Nat → Rat) : D := vecD "double" (vD m y) .none
noncomputable def iL (m : Nat) : List D := rg m fun k => .int ((k : Int) + 1)
noncomputable def frameD (m : Nat) (y : Nat → Rat) : D := vecD "list" (.list [yD m y]) (.dict [("names", chD [.str "y"]), ("class", chD [.str "data.frame"]), ("row.names", inD (iL m))])
theorem range_1 {m : Nat} (hm : m ≤ 900) : rangeItems [.frz (.int 1), .frz (.int ((m : Int) + 1))] = some (iL m) := by
  refine (range2 (a := 1) (b := m + 1) (by decide) (Nat.le_trans (Nat.succ_le_succ hm) (by decide))).trans (congrArg some ?_)
  exact rg_congr fun k _ => congrArg D.int (Int.add_comm _ _)
section
variable {m : Nat} {y : Nat → Rat}
theorem length_ok (hm : m ≤ 1000) : Rets 1 .f_length [.frz (yD m y)] (.frz (.int m)) := rets rfl fun n hn => [none, lnV y hm]
theorem row_count_ok (hm : m ≤ 1000) : Rets 3 .f_row_count [.frz (yD m y)] (.frz (.int m)) := rets rfl fun n hn => [cF hn (dim_of_none "double" (vD m y)) rfl, cF hn (length_ok (y := y) hm) rfl]
theorem frame_ok (hm : m ≤ 900) : Rets 4 .f_frame_of [.frz (.list [yD m y]), .frz (.list [.str "y"]), .frz .none] (.frz (frameD m y)) := by
  have hm' : m ≤ 1000 := Nat.le_trans hm (by decide)
  have hl : (iL m).length ≤ 1000 := by rw [iL, rg_length]; exact hm'
  exact rets rfl fun n hn => [none, none, none, cF hn (row_count_ok (y := y) hm') rfl, lF (range_1 hm), cpF hl, zlF (iL m), cF hn (integer_ok hl) rfl, none,
    qF (ev_compL (cf := callN n) (cn := newN n) (i := 6) (it := .ex (.pu (.var 0))) (elt := .call .f_share [(.pu (.var 6))]) (σ := [some (.frz (.list [yD m y])), some (.frz (.list [.str "y"])), some (.frz .none), some (.frz (.int m)), some (.frz (inD (iL m))), none, none]) [yD m y] id id (run_i []) (Nat.le_of_ble_eq_true rfl)
      fun d hd => run_e [cF hn (share_ok (d := d) (by rw [List.mem_singleton.1 hd]; exact shv _ _ _)) rfl]),
    none, nvF hn "list" (.list [yD m y]), cF hn (character_ok (l := [.str "y"]) (Nat.le_of_ble_eq_true rfl)) rfl, none, none, cF hn (character_ok (l := [.str "data.frame"]) (Nat.le_of_ble_eq_true rfl)) rfl, none, none]
theorem prim_str (a : Int) (h : a.natAbs < 1000) : prim .str [.frz (.int a)] = some (.frz (.str (toString a))) := by
  show (if a.natAbs < 1000 then some (D.str (toString a)) else none).bind _ = _
  rw [if_pos h]; rfl
theorem str_row {m k : Nat} (hm : m ≤ 900) (hk : k < m) : prim .str [.frz (.int ((k : Int) + 1))] = some (.frz (rowsN k)) := prim_str _ (Nat.lt_of_lt_of_le (Nat.succ_lt_succ (Nat.lt_of_lt_of_le hk hm)) (by decide))
theorem frame_rows_ok (hm : m ≤ 900) : Rets 2 .f_frame_row_names [.frz (frameD m y)] (.frz (fl m rowsN)) :=
  rets rfl fun n hn => [cF hn (get_attr_is "list" (.list [yD m y]) (d := inD (iL m)) (l := [("names", chD [.str "y"]), ("class", chD [.str "data.frame"]), ("row.names", inD (iL m))]) (nm := "row.names") rfl) rfl,
    qF (comp_ok (cf := callN n) (cn := newN n) (unz (xE (stm b_f_frame_row_names 2))) (n := m) (g := fun k => .int ((k : Int) + 1)) rowsN [some (.frz (frameD m y)), some (.frz (inD (iL m))), none] (Nat.le_trans hm (by decide)) [] fun k hk => [tF (str_row hm hk)]),
    zoF m rowsN]
noncomputable def desT (c m : Nat) (free : Bool) (y : Nat → Rat) (co na as_ yy we : T) : T := .oinst .design [("terms", .frz (termsD free)), ("frame", .frz (frameD m y)), ("columns", co), ("names", na), ("assign", as_), ("y", yy), ("weights", we), ("offset", .frz .none), ("rows", .frz (fl m rowsN))]
theorem new_design {n : Nat} {free : Bool} (hn : 3 ≤ n) (hm : m ≤ 900) : newN n .design [.frz (termsD free), .frz (frameD m y)] = some (desT 0 m free y nl nl nl (.frz .none) (.frz .none)) :=
  news (c := 2) hn (fun m => by rw [newN]) fun n hn => [cF hn (frame_rows_ok (y := y) hm) rfl]
end
theorem sm_pos {m : Nat} {w : Nat → Rat} (hm : 0 < m) (hw : ∀ k, k < m → 0 < w k) : sm m w ≠ 0 := by
  have h0 : ∀ n, n ≤ m → 0 ≤ sm n w := by
    intro n hn
    induction n with
    | zero => exact Rat.le_refl
    | succ n ih =>
      rw [sm]
      have := ih (Nat.le_of_succ_le hn)
      have := hw n hn
      grind
  obtain ⟨k, rfl⟩ := Nat.exists_eq_succ_of_ne_zero (Nat.ne_of_gt hm)
  rw [sm]
  have := h0 k (Nat.le_succ k)
  have := hw k (Nat.lt_succ_self k)
  grind
theorem cons_mD (c m : Nat) (X : Nat → Nat → Rat) : D.list (vD m one1 :: rg c fun j => vD m (X j)) = mD (c + 1) m fun j => if j = 0 then one1 else X (j - 1) := by
  show _ = D.list ((List.range (c + 1)).map fun j => vD m (if j = 0 then one1 else X (j - 1)))
  rw [List.range_succ_eq_map, List.map_cons, List.map_map]; rfl
noncomputable def wtR : Nat → Rat
  | 0 => 1
  | 1 => 2
  | _ => third
theorem wtR_H (v : Nat) : H 2 (wtR v) := by
  rcases v with _ | _ | v
  · exact H_one.up rfl
  · exact ⟨by decide, by decide⟩
  · exact show H 2 third from ⟨by decide, by decide⟩
theorem wtR_pos (v : Nat) : 0 < wtR v := by
  rcases v with _ | _ | v
  · decide
  · decide
  · exact show 0 < third by decide
theorem wtR_at {v : Nat} (h : v < 3) : ([rD 1, rD 2, rD third] : List D)[v]? = some (rD (wtR v)) := by
  rcases v with _ | _ | v
  · rfl
  · rfl
  · have : v = 0 := Nat.lt_one_iff.1 (Nat.lt_of_succ_lt_succ (Nat.lt_of_succ_lt_succ h))
    subst this; rfl
theorem namesN_len : ∀ k : Nat, k < 6 → Nat.ble ("v".length + (toString (k : Int)).length) 1000 = true := by decide +kernel
theorem add_str {a b : String} (h : a.length + b.length ≤ 1000) : prim .add [.frz (.str a), .frz (.str b)] = some (.frz (.str (a ++ b))) := if_pos h
end MineP.Internal
end
section
set_option maxRecDepth 10000
namespace MineP.Internal
open Mine.Internal
noncomputable def chS (j : Nat) : String := ["p", "q", "r", "s", "t"][j]?.getD ""
noncomputable def chr (j : Nat) : D := .str (chS j)
theorem chS_inj : ∀ i, i < 5 → ∀ j, j < 5 → chS i = chS j → i = j := by decide
theorem chS_len : ∀ i, i < 5 → (chS i).length = 1 := by decide
noncomputable def cdf (f : Nat → Nat) : Option Nat → D
  | none => .none
  | some j => .int ((f j + 1 : Nat) : Int)
noncomputable def txt : Option Nat → D
  | none => .none
  | some j => chr j
theorem inI (j t : Nat) : decide (((j + 1 : Nat) : Int) = ((t + 1 : Nat) : Int)) = decide (some t = some j) := decide_eq_decide.2 ⟨fun q => congrArg some (Nat.succ.inj (Int.ofNat.inj q)).symm, fun q => by rw [Option.some.inj q]⟩
theorem inS {j t : Nat} (hj : j < 5) (ht : t < 5) : decide (chS j = chS t) = decide (t = j) := decide_eq_decide.2 ⟨fun q => (chS_inj j hj t ht q).symm, fun q => by rw [q]⟩
theorem pyIn_cons {x y : D} {l : List D} {a b : Bool} (h : pyEqS y x = some a) (h' : pyIn x l = some b) : pyIn x (y :: l) = some (a || b) := by
  show (pyEqS y x).bind _ = _
  rw [h]
  show (pyIn x l).bind _ = _
  rw [h']; rfl
theorem mem_or {α : Type} (a b : α) (l : List α) [Decidable (a = b)] [Decidable (a ∈ l)] [Decidable (a ∈ b :: l)] : decide (a ∈ b :: l) = (decide (a = b) || decide (a ∈ l)) := by
  rw [← Bool.decide_or, decide_eq_decide]; exact List.mem_cons
theorem pyIn_cdf (its : List (Option Nat)) (t : Nat) : pyIn (.int ((t + 1 : Nat) : Int)) (its.map (cdf id)) = some (decide (some t ∈ its)) := by
  induction its with
  | nil => rfl
  | cons o l ih =>
    rw [mem_or]
    refine pyIn_cons ?_ ih
    cases o with
    | none => rfl
    | some j => exact congrArg some (inI j t)
theorem pyIn_txt {its : List (Option Nat)} {t : Nat} (h5 : ∀ j, some j ∈ its → j < 5) (ht : t < 5) : pyIn (chr t) (its.map txt) = some (decide (some t ∈ its)) := by
  induction its with
  | nil => rfl
  | cons o l ih =>
    rw [mem_or]
    refine pyIn_cons ?_ (ih fun j hj => h5 j (.tail _ hj))
    cases o with
    | none => rfl
    | some j => exact congrArg some ((inS (h5 j (.head _)) ht).trans (decide_eq_decide.2 ⟨congrArg some, Option.some.inj⟩))
theorem pyIn_chr {ks : List Nat} {t : Nat} (h5 : ∀ j, j ∈ ks → j < 5) (ht : t < 5) : pyIn (chr t) (ks.map chr) = some (decide (t ∈ ks)) := by
  induction ks with
  | nil => rfl
  | cons j l ih =>
    rw [mem_or]
    exact pyIn_cons (congrArg some (inS (h5 j (.head _)) ht)) (ih fun j hj => h5 j (.tail _ hj))
noncomputable def ix (t : Nat) : List Nat → Nat
  | [] => 0
  | j :: l => if j = t then 0 else ix t l + 1
theorem ix_get {t : Nat} : ∀ {ks : List Nat}, t ∈ ks → (ks.map chr)[ix t ks]? = some (chr t) ∧ ix t ks < ks.length
  | j :: l, h => by
    rw [ix]
    by_cases hj : j = t
    · rw [if_pos hj, hj]; exact ⟨rfl, Nat.succ_pos _⟩
    · rw [if_neg hj]
      obtain ⟨h1, h2⟩ := ix_get ((List.mem_cons.1 h).resolve_left (Ne.symm hj))
      exact ⟨h1, Nat.succ_lt_succ h2⟩
theorem ix_s {t : Nat} (ht : t < 5) : ∀ {ks : List Nat}, (∀ j, j ∈ ks → j < 5) → t ∈ ks → (strList (ks.map chr)).bind (sIndex (chS t)) = some (ix t ks) := by
  intro ks h5 h
  have hs : ∀ ks : List Nat, strList (ks.map chr) = some (ks.map chS) := fun ks => by
    induction ks with
    | nil => rfl
    | cons j l ih =>
      show (strList (l.map chr)).bind (fun r => some (chS j :: r)) = _
      rw [ih]; rfl
  rw [hs]
  show sIndex (chS t) (ks.map chS) = _
  induction ks with
  | nil => cases h
  | cons j l ih =>
    rw [ix]
    show (if chS j = chS t then some 0 else (sIndex (chS t) (l.map chS)).map (· + 1)) = _
    by_cases hj : j = t
    · rw [if_pos hj, if_pos (congrArg chS hj)]
    · rw [if_neg hj, if_neg fun q => hj (chS_inj j (h5 j (.head _)) t ht q), ih (fun j hj => h5 j (.tail _ hj)) ((List.mem_cons.1 h).resolve_left (Ne.symm hj))]; rfl
noncomputable def facD (items : List D) (lv : List D) : D := vecD "integer" (.list items) (.dict [("levels", chD lv), ("class", chD [.str "factor"])])
noncomputable def lvF {d n : Nat} (hn : d ≤ n) (items lv : List D) (e : Nat.ble 1 d = true := by exact rfl) : Option Fact := cF hn (get_attr_is "integer" (.list items) (d := chD lv) (l := [("levels", chD lv), ("class", chD [.str "factor"])]) (nm := "levels") rfl) e
section
variable (P : Nat → Bool)
noncomputable def kN : Nat → Nat
  | 0 => 0
  | t + 1 => if P t = true then kN t + 1 else kN t
noncomputable def kL : Nat → List D
  | 0 => []
  | t + 1 => if P t = true then kL t ++ [chr t] else kL t
noncomputable def kC : Nat → List (Int × D)
  | 0 => []
  | t + 1 => if P t = true then kC t ++ [((t : Int) + 1, .int ((kN P t + 1 : Nat) : Int))] else kC t
theorem kL_eq : ∀ t, kL P t = ((List.range t).filter P).map chr
  | 0 => rfl
  | t + 1 => by
    rw [List.range_succ, List.filter_append, List.map_append, ← kL_eq t, kL]
    cases h : P t with
    | true => rw [if_pos rfl, List.filter_cons_of_pos h]; rfl
    | false => rw [if_neg Bool.false_ne_true, List.filter_cons_of_neg (by rw [h]; decide)]; exact (List.append_nil _).symm
theorem k_all : ∀ t, (kL P t).length = kN P t ∧ (kC P t).length = kN P t ∧ kN P t ≤ t ∧ (∀ i : Int, (t : Int) < i → (kC P t).lookup i = none) ∧
    ∀ j, j < t → P j = true → (kC P t).lookup ((j : Int) + 1) = some (.int ((kN P j + 1 : Nat) : Int)) ∧ (kL P t)[kN P j]? = some (chr j)
  | 0 => ⟨rfl, rfl, Nat.le_refl _, fun i _ => show List.lookup i [] = none from rfl, fun j hj => absurd hj (Nat.not_lt_zero j)⟩
  | t + 1 => by
    obtain ⟨h1, h2, h3, h4, h5⟩ := k_all t
    rw [kL, kC, kN]
    cases h : P t with
    | false =>
      rw [if_neg Bool.false_ne_true, if_neg Bool.false_ne_true, if_neg Bool.false_ne_true]
      refine ⟨h1, h2, Nat.le_succ_of_le h3, fun i hi => h4 i (Int.lt_trans (Int.ofNat_lt.2 (Nat.lt_succ_self t)) hi), fun j hj hP => ?_⟩
      rcases Nat.lt_succ_iff_lt_or_eq.1 hj with q | rfl
      · exact h5 j q hP
      · rw [h] at hP; cases hP
    | true =>
      rw [if_pos rfl, if_pos rfl, if_pos rfl]
      refine ⟨by rw [List.length_append, h1]; rfl, by rw [List.length_append, h2]; rfl, Nat.succ_le_succ h3, fun i hi => ?_, fun j hj hP => ?_⟩
      · rw [List.lookup_append, h4 i (Int.lt_trans (Int.ofNat_lt.2 (Nat.lt_succ_self t)) hi)]
        show List.lookup i [((t : Int) + 1, _)] = none
        rw [List.lookup_cons, beq_false_of_ne (a := i) (b := (t : Int) + 1) (Int.ne_of_gt (show (t : Int) + 1 < i from hi))]; rfl
      · rw [List.lookup_append]
        rcases Nat.lt_succ_iff_lt_or_eq.1 hj with q | rfl
        · obtain ⟨g1, g2⟩ := h5 j q hP
          rw [g1]
          refine ⟨rfl, ?_⟩
          rw [List.getElem?_append_left (List.getElem?_eq_some_iff.1 g2).1]; exact g2
        · rw [h4 _ (Int.lt_succ _)]
          refine ⟨?_, ?_⟩
          · show List.lookup _ [((j : Int) + 1, _)] = _
            rw [List.lookup_cons, beq_self_eq_true]
          · rw [← h1, List.getElem?_concat_length]
theorem k_id : ∀ {t : Nat}, kN P t = t → kL P t = rg t chr ∧ ∀ j, j < t → kN P j = j
  | 0, _ => ⟨rfl, fun j hj => absurd hj (Nat.not_lt_zero j)⟩
  | t + 1, h => by
    have h3 := (k_all P t).2.2.1
    rw [kN] at h
    rw [kL]
    cases hP : P t with
    | false =>
      rw [hP, if_neg Bool.false_ne_true] at h
      exact absurd h (Nat.ne_of_lt (Nat.lt_succ_of_le h3))
    | true =>
      rw [hP, if_pos rfl] at h
      obtain ⟨g1, g2⟩ := k_id (Nat.succ.inj h)
      rw [if_pos rfl, g1, rg_succ]
      refine ⟨rfl, fun j hj => ?_⟩
      rcases Nat.lt_succ_iff_lt_or_eq.1 hj with q | rfl
      · exact g2 j q
      · exact Nat.succ.inj h
end
noncomputable def hasL (its : List (Option Nat)) (j : Nat) : Bool := decide (some j ∈ its)
theorem item_i {n k : Nat} {i : Int} (g : Nat → D) (hi : i = k) (hk : k < n) (hn : n ≤ 1000) : prim .item [.frz (fl n g), .frz (.int i)] = some (.frz (g k)) := by rw [hi]; exact item_fl g hk hn
theorem item_li {l : List D} {k : Nat} {i : Int} {d : D} (hi : i = k) (hk : k ≤ 1000) (h : l[k]? = some d) : prim .item [.frz (.list l), .frz (.int i)] = some (.frz d) := by rw [hi]; exact item_list hk h
theorem sub1 (j : Nat) : ((j + 1 : Nat) : Int) - 1 = j := show (j : Int) + 1 - 1 = j from Int.add_sub_cancel _ _
theorem store_idict {l : List (Int × D)} {k : Int} {d : D} (h : l.length ≤ 500) (h' : l.lookup k = none) : storeI (.frz d) (.frz (.int k)) (.oidict l) = some (.oidict (l ++ [(k, d)])) := by
  refine (if_pos (by rw [h', decide_eq_true h]; rfl)).trans rfl
theorem add1 (j : Nat) : ((j + 1 : Nat) : Int) = (j : Int) + 1 := rfl
section
variable {nL : Nat} {its : List (Option Nat)}
theorem used_ok (hL : nL ≤ 5) (hi : its.length ≤ 1000) (h5 : ∀ j, some j ∈ its → j < nL) :
    Rets 3 .f_used_levels [.frz (facD (its.map (cdf id)) (rg nL chr))] (.frz (facD (its.map (cdf (kN (hasL its)))) (kL (hasL its) nL))) := by
  have hL' := le1000 hL
  obtain ⟨k1, k2, k3, k4, k5⟩ := k_all (hasL its) nL
  have hk' := Nat.le_trans k3 hL'
  let Z (t : Nat) : Sg := [some (.frz (facD (its.map (cdf id)) (rg nL chr))), some (.frz (chD (rg nL chr))), some (.olist ((kL (hasL its) t).map .frz)), some (.oidict (kC (hasL its) t)), none, none, none]
  let fx (n : Nat) (hn : 2 ≤ n) : Tr := [lvF hn (its.map (cdf id)) (rg nL chr), none,
    sF (loop_by (cf := callN n) (cn := newN n) (stm b_f_used_levels 4) (n := nL) (g := fun k => .int k) Z [lnF chr hL', rgF hL'] fun t ht => by
      have hin : prim .inn [.frz (.int ((t + 1 : Nat) : Int)), .frz (.list (its.map (cdf id)))] = some (.frz (.bool (hasL its t))) := prim_inn rfl (pyIn_cdf its t)
      obtain ⟨g1, g2, g3, g4, -⟩ := k_all (hasL its) t
      have g3' := Nat.le_trans g3 (Nat.le_trans (Nat.le_of_lt ht) hL)
      show xss _ _ _ _ = some (.next [_, _, some (.olist ((kL (hasL its) (t + 1)).map .frz)), some (.oidict (kC (hasL its) (t + 1))), none, none, none])
      rw [kL, kC]
      cases hP : hasL its t with
      | false =>
        rw [hP] at hin
        exact run_ss [tF hin]
      | true =>
        rw [hP] at hin
        exact run_ss [tF hin, itF chr ht hL', tF (append_l (l := kL (hasL its) t) (d := chr t) (by rw [g1]; exact le1000 g3')),
          tF (len_olist (l := (kL (hasL its) t ++ [chr t]).map .frz) (n := kN (hasL its) t + 1) (by rw [List.length_map, List.length_append, g1]; rfl) (Nat.le_trans (Nat.succ_le_succ g3') (by decide))),
          tF (store_idict (d := .int ((kN (hasL its) t + 1 : Nat) : Int)) (by rw [g2]; exact Nat.le_trans g3' (by decide)) (g4 _ (Int.lt_succ _)))]),
    tF (len_olist (l := (kL (hasL its) nL).map .frz) (n := kN (hasL its) nL) (by rw [List.length_map]; exact k1) hk'), lnF chr hL']
  by_cases ha : kN (hasL its) nL = nL
  · obtain ⟨e1, e2⟩ := k_id (hasL its) ha
    have e3 : its.map (cdf (kN (hasL its))) = its.map (cdf id) := List.map_congr_left fun o ho => by
      cases o with
      | none => rfl
      | some j => show D.int _ = D.int _; rw [e2 j (h5 j ho)]; rfl
    rw [e1, e3]
    exact rets rfl fun n hn => fx n hn ++ [eq1 (congrArg Int.ofNat ha)]
  · exact rets rfl fun n hn => fx n hn ++ [eq0 (fun q => ha (Int.ofNat.inj q)),
      qF (ev_compL (cf := callN n) (cn := newN n) (i := 6) (it := .ex (.pu (.op (.attr "items") [(.var 0)]))) (elt := .frz (.ite (.pu .isn (.var 6) (.cst .none)) (.pu (.cst .none)) (.pu (.op .item [(.var 3), (.var 6)])))) (σ := Z nL) its (cdf id) (cdf (kN (hasL its))) (run_i []) hi fun o ho => by
        cases o with
        | none => exact run_e []
        | some j => exact run_e [tF (o := prim .item [.oidict (kC (hasL its) nL), .frz (.int ((j : Int) + 1))]) (t := .frz (.int ((kN (hasL its) j + 1 : Nat) : Int))) (by
            show ((kC (hasL its) nL).lookup ((j : Int) + 1)).bind _ = _
            rw [(k5 j (h5 j ho) (decide_eq_true ho)).1]; rfl)]),
      zlF (its.map (cdf (kN (hasL its)))), nvF hn "integer" (.list (its.map (cdf (kN (hasL its))))),
      zlF (kL (hasL its) nL), cF hn (character_ok (l := kL (hasL its) nL) (by rw [k1]; exact hk')) rfl, none, none]
end
end MineP.Internal
end
section
set_option maxRecDepth 10000
namespace MineP.Internal
open Mine.Internal
theorem forLoop_app {step : D → Sg → Option Fl} : ∀ {l1 l2 : List D} {σ σ' : Sg}, forLoop step l1 σ = some (.next σ') → forLoop step (l1 ++ l2) σ = forLoop step l2 σ'
  | [], _, _, _, h => by cases h; rfl
  | d :: l1, l2, σ, σ', h => bindv (o := step d σ) h fun q e1 e2 => by
    show (step d σ).bind _ = _
    rw [e1]
    cases q with
    | next σ1 => exact forLoop_app e2
    | ret t σ1 => cases e2
    | exc m => cases e2
section
variable {cf : Cf} {cn : Cn}
theorem loop_exc (s : S) {p : Nat} {g : Nat → D} {d : D} {l : List D} {σ : Sg} {m : String} (St : Nat → Sg) (hit : evi cf cn (lp s).2.1 σ = some (rg p g ++ d :: l, St 0))
    (hb : ∀ k, k < p → xss cf cn (lp s).2.2 ((St k).set (lp s).1 (some (.frz (g k)))) = some (.next (St (k + 1))))
    (he : xss cf cn (lp s).2.2 ((St p).set (lp s).1 (some (.frz d))) = some (.exc m))
    (hs : s = .loop (lp s).1 (lp s).2.1 (lp s).2.2 := by kernel_rfl) : xs cf cn s σ = some (.exc m) := by
  obtain ⟨σ', h1, h2⟩ := forLoop_rg (n := p) (g := g) (step := fun d σ => xss cf cn (lp s).2.2 (σ.set (lp s).1 (some (.frz d)))) (fun k σ => σ = St k) rfl (fun k σ hk e => ⟨_, by rw [e]; exact hb k hk, rfl⟩)
  rw [hs]
  show (evi cf cn (lp s).2.1 σ).bind _ = _
  rw [hit]
  refine (forLoop_app h1).trans ?_
  rw [h2]
  show Option.bind (xss _ _ _ _) _ = _
  rw [he]; rfl
end
noncomputable def strg (ks : List Nat) : Option Nat → Bool
  | none => false
  | some j => !(decide (j ∈ ks))
noncomputable def iX (ks : List Nat) (j : Nat) : Nat := ix j ks
noncomputable def flX (r : Fl) : Option T := (Mine.Internal.told r).map Prod.fst
theorem rel_x {n : Nat} {v K t : D} (h : (xss (callN n) (newN n) b_f_releveled [some (.frz v), some (.frz K), some (.frz (.str "g")), none, none, none, none, none, none]).bind flX = some (.frz t)) : val (callN (n + 1) .f_law_releveled [.frz v, .frz K]) = some (.frz t) := by
  rw [callN.eq_def]
  show val ((xss (callN n) (newN n) b_f_releveled [some (.frz v), some (.frz K), some (.frz (.str "g")), none, none, none, none, none, none]).bind Mine.Internal.told) = _
  refine bindv h fun r h1 h2 => ?_
  rw [h1]; exact h2
theorem take_s (l : List (Option Nat)) {k : Nat} (h : k < l.length) : l.take (k + 1) = l.take k ++ [l[k]?.getD none] := by
  rw [List.take_add_one]; simp [h]
theorem levels_ok {nL : Nat} (hL : nL ≤ 5) (items : List D) : Rets 3 .f_factor_levels [.frz (facD items (rg nL chr))] (.frz (.list (rg nL chr))) :=
  rets rfl fun n hn => [none, lvF hn items (rg nL chr), none, cgF chr (le1000 hL), zoF nL chr]
section
variable {nL : Nat} {its : List (Option Nat)} {ks : List Nat}
noncomputable def rS' (nL : Nat) (its : List (Option Nat)) (ks : List Nat) (l : List (Option Nat)) : Sg := [some (.frz (facD (its.map (cdf id)) (rg nL chr))), some (.frz (.list (ks.map chr))), some (.frz (.str "g")), some (.frz (.list (rg nL chr))), some (.frz (.list (its.map txt))), some (.olist ((l.map (cdf (iX ks))).map .frz)), none, none, none]
theorem rel_names {n : Nat} (hL : nL ≤ 5) (hi : its.length ≤ 900) (h5 : ∀ j, some j ∈ its → j < nL) (hn : 4 ≤ n) :
    xss (callN n) (newN n) (b_f_releveled.take 4) [some (.frz (facD (its.map (cdf id)) (rg nL chr))), some (.frz (.list (ks.map chr))), some (.frz (.str "g")), none, none, none, none, none, none] = some (.next (rS' nL its ks [])) :=
  run_ss [cF hn (levels_ok hL (its.map (cdf id))) rfl, none,
    qF (ev_compL (cf := callN n) (cn := newN n) (i := 8) (it := .ex (.pu (.op (.attr "items") [(.var 0)]))) (elt := .frz (.ite (.pu .isn (.var 8) (.cst .none)) (.pu (.cst .none)) (.pu (.op .item [(.var 3), (.op .sub [(.var 8), (.cst (.int 1))])])))) (σ := [some (.frz (facD (its.map (cdf id)) (rg nL chr))), some (.frz (.list (ks.map chr))), some (.frz (.str "g")), some (.frz (.list (rg nL chr))), none, none, none, none, none]) its (cdf id) txt (run_i []) (Nat.le_trans hi (by decide)) fun o ho => by
      cases o with
      | none => exact run_e []
      | some j => exact run_e [tF (item_i chr (sub1 j) (h5 j ho) (le1000 hL))]),
    zlF (its.map txt)]
theorem rel_step {n : Nat} {l : List (Option Nat)} {o : Option Nat} (hi : l.length ≤ 900) (hk : ks.length ≤ 900) (hk5 : ∀ j, j ∈ ks → j < 5) (ho : ∀ j, o = some j → j < 5) (hs : strg ks o = false) :
    xss (callN n) (newN n) (lp (stm b_f_releveled 4)).2.2 ((rS' nL its ks l).set (lp (stm b_f_releveled 4)).1 (some (.frz (txt o)))) = some (.next (rS' nL its ks (l ++ [o]))) := by
  have hl : (l.map (cdf (iX ks))).length ≤ 1000 := by rw [List.length_map]; exact Nat.le_trans hi (by decide)
  unfold rS'
  rw [List.map_append (f := cdf (iX ks))]
  cases o with
  | none => exact run_ss [tF (append_l (d := .none) hl)]
  | some j =>
    have hj : j ∈ ks := by simpa [strg] using hs
    exact run_ss [tF (prim_inn (x := chr j) rfl ((pyIn_chr hk5 (ho j rfl)).trans (congrArg some (decide_eq_true hj)))), tF (prim_index (x := chS j) (by rw [List.length_map]; exact Nat.le_trans hk (by decide)) (ix_s (ho j rfl) hk5 hj)), tF (append_l (d := .int ((ix j ks : Int) + 1)) hl)]
theorem rel_known (hL : nL ≤ 5) (hi : its.length ≤ 900) (h5 : ∀ j, some j ∈ its → j < nL) (hk : ks.length ≤ 900) (hk5 : ∀ j, j ∈ ks → j < 5) (hs : ∀ o, o ∈ its → strg ks o = false) :
    Rets 5 .f_law_releveled [.frz (facD (its.map (cdf id)) (rg nL chr)), .frz (.list (ks.map chr))] (.frz (facD (its.map (cdf (iX ks))) (ks.map chr))) := by
  intro n hn
  obtain ⟨n, rfl⟩ : ∃ m, n = m + 1 := ⟨n - 1, (Nat.sub_add_cancel (Nat.le_trans (by decide) hn)).symm⟩
  have hn := Nat.le_of_succ_le_succ hn
  have hloop := loop_hit (cf := callN n) (cn := newN n) (stm b_f_releveled 4) (n := its.length) (g := fun k => txt (its[k]?.getD none)) (σ := rS' nL its ks []) (fun k => rS' nL its ks (its.take k)) ((run_i [] (f := (its.map txt, rS' nL its ks []))).trans (by rw [map_rg its txt none]; rfl)) fun k hkl => by
    have hm : its[k]?.getD none ∈ its := by rw [List.getElem?_eq_getElem hkl]; exact List.getElem_mem hkl
    show _ = some (Fl.next (rS' nL its ks (its.take (k + 1))))
    rw [take_s its hkl]
    exact rel_step (Nat.le_trans (by rw [List.length_take]; exact Nat.min_le_right _ _) hi) hk hk5 (fun j hj => Nat.lt_of_lt_of_le (h5 j (hj ▸ hm)) hL) (hs _ hm)
  rw [List.take_length] at hloop
  exact rel_x (seqV 4 (rel_names hL hi h5 hn) (run_p [sF hloop, zlF (its.map (cdf (iX ks))), cF hn (integer_ok (l := its.map (cdf (iX ks))) (by rw [List.length_map]; exact Nat.le_trans hi (by decide))) rfl, cF hn (character_ok (l := ks.map chr) (by rw [List.length_map]; exact Nat.le_trans hk (by decide))) rfl, none, none, cF hn (character_ok (l := [.str "factor"]) (Nat.le_of_ble_eq_true rfl)) rfl, none, none]))
theorem rel_new {as bs : List (Option Nat)} {j : Nat} (hL : nL ≤ 5) (hi : its.length ≤ 900) (h5 : ∀ j, some j ∈ its → j < nL) (hk : ks.length ≤ 900) (hk5 : ∀ j, j ∈ ks → j < 5) (he : its = as ++ some j :: bs) (hj : j ∉ ks) (hs : ∀ o, o ∈ as → strg ks o = false) :
    Rets 5 .f_law_releveled [.frz (facD (its.map (cdf id)) (rg nL chr)), .frz (.list (ks.map chr))] (.frz (.str ("factor g has new level " ++ chS j))) := by
  intro n hn
  obtain ⟨n, rfl⟩ : ∃ m, n = m + 1 := ⟨n - 1, (Nat.sub_add_cancel (Nat.le_trans (by decide) hn)).symm⟩
  have hn := Nat.le_of_succ_le_succ hn
  have hj5 : j < 5 := Nat.lt_of_lt_of_le (h5 j (by rw [he]; exact List.mem_append_right _ (.head _))) hL
  have hlit : "factor g has new level " = "factor " ++ "g" ++ " has new level " := by decide
  have hin : prim .inn [.frz (chr j), .frz (.list (ks.map chr))] = some (.frz (.bool false)) := prim_inn rfl ((pyIn_chr hk5 hj5).trans (congrArg some (decide_eq_false hj)))
  have hsub : ∀ o, o ∈ as → o ∈ its := fun o ho => by rw [he]; exact List.mem_append_left _ ho
  have hal : as.length ≤ 900 := Nat.le_trans (by rw [he, List.length_append]; exact Nat.le_add_right _ _) hi
  have hloop := loop_exc (cf := callN n) (cn := newN n) (stm b_f_releveled 4) (p := as.length) (g := fun k => txt (as[k]?.getD none)) (d := chr j) (l := bs.map txt) (m := "factor " ++ "g" ++ " has new level " ++ chS j) (σ := rS' nL its ks []) (fun k => rS' nL its ks (as.take k))
    ((run_i [] (f := (its.map txt, rS' nL its ks []))).trans (by
      rw [← map_rg as txt none]
      show some (its.map txt, _) = some (as.map txt ++ (some j :: bs).map txt, _)
      rw [← List.map_append, ← he]; rfl)) (fun k hkl => by
    have hm : as[k]?.getD none ∈ as := by rw [List.getElem?_eq_getElem hkl]; exact List.getElem_mem hkl
    show _ = some (Fl.next (rS' nL its ks (as.take (k + 1))))
    rw [take_s as hkl]
    exact rel_step (Nat.le_trans (by rw [List.length_take]; exact Nat.min_le_right _ _) hal) hk hk5 (fun j hj => Nat.lt_of_lt_of_le (h5 j (hj ▸ hsub _ hm)) hL) (hs _ hm))
    (run_ss [tF hin, none, none, tF (add_str (a := "factor " ++ "g" ++ " has new level ") (b := chS j) (by rw [chS_len j hj5]; decide))])
  rw [hlit]
  exact rel_x (seqV 4 (rel_names hL hi h5 hn) (run_p [sF hloop]))
end
end MineP.Internal
end
section
set_option maxRecDepth 10000
namespace MineP.Internal
open Mine.Internal
noncomputable def oc : Nat → Option Nat
  | 0 => none
  | v + 1 => some v
theorem oc_lt {v nL j : Nat} (h : v < nL + 1) (e : oc v = some j) : j < nL := by
  cases v with
  | zero => cases e
  | succ v => cases e; exact Nat.lt_of_succ_lt_succ h
theorem codes_at {nL v : Nat} (hv : v < nL + 1) : (D.none :: iL nL)[v]? = some (cdf id (oc v)) := by
  cases v with
  | zero => rfl
  | succ v => exact (rg_get (fun k => D.int ((k : Int) + 1)) (Nat.lt_of_succ_lt_succ hv)).trans rfl
theorem slc_rg {n k : Nat} (g : Nat → D) (hk : k ≤ n) (hn : n ≤ 1000) : slcT (rg n g) (k : Int) = some (ol k g) := by
  unfold slcT
  rw [idx_nat (Nat.le_trans hk hn)]
  refine (if_pos (by rw [rg_length]; exact hn)).trans ?_
  rw [rg, ← List.map_take, List.take_range, Nat.min_eq_left hk]; rfl
theorem cat_ok {x y : List D} (h : x.length + y.length ≤ 1000) : catT x y = some (.olist ((x ++ y).map .frz)) := if_pos h
theorem nxt {l R : List Int} {v lim n : Nat} (hn : 1 ≤ n) (hl : l.length ≤ 1000) (hlim : 0 < lim) (e : nx l lim = v) (h : dr 1 l = R) : callN n .f_law_next [rowT l, .frz (.int lim)] = some (.frz (.int v), [some (rowT R), some (.frz (.int lim))]) := by
  rw [← e, ← h]; exact next_ok hn hl hlim
theorem ne_nil {x : D} {l : List D} (h : ∀ d, d ∈ x :: l → pyEq 3 d d = some true) : prim .ne [.frz (.list (x :: l)), .frz (.list [])] = some (.frz (.bool true)) := by
  have key : ∀ {l : List D} {x : D}, (∀ d, d ∈ x :: l → pyEq 3 d d = some true) → pyEqL (pyEq 3) (x :: l) [] = some false := by
    intro l
    induction l with
    | nil => intro x h; rw [pyEqL, h x (.head _)]; rfl
    | cons y l ih => intro x h; rw [pyEqL, h x (.head _), Option.bind_some, ih fun d hd => h d (.tail _ hd)]; rfl
  show (pyEqL (pyEq 3) (x :: l) []).bind _ = _
  rw [key h]; rfl
theorem txt_eq (o : Option Nat) : pyEq 3 (txt o) (txt o) = some true := by
  cases o with
  | none => rfl
  | some j => exact eq_str 3 _
theorem txts_eq (l : List (Option Nat)) : ∀ d, d ∈ l.map txt → pyEq 3 d d = some true := fun d hd => by
  obtain ⟨o, _, rfl⟩ := List.mem_map.1 hd
  exact txt_eq o
theorem chrs_eq (l : List Nat) : ∀ d, d ∈ l.map chr → pyEq 3 d d = some true := fun d hd => by
  obtain ⟨o, _, rfl⟩ := List.mem_map.1 hd
  exact eq_str 3 _
theorem cdfs_eq (l : List (Option Nat)) : ∀ d, d ∈ l.map (cdf id) → pyEq 3 d d = some true := fun d hd => by
  obtain ⟨o, _, rfl⟩ := List.mem_map.1 hd
  cases o with
  | none => rfl
  | some j => exact eq_int 3 _
noncomputable def fS (l : List Int) (x2 x3 x4 x5 x6 x7 x8 x9 x10 : Option T) : Sg := [some (rowT l), some (.frz (fl 5 chr)), x2, x3, x4, x5, x6, x7, x8, x9, x10, none, none, none, none, none, none, none, none]
theorem factors_ok {l : List Int} {n : Nat} (hn : 6 ≤ n) (hl : l.length ≤ 1000) : ∃ σ, callN n .f_law_factors [rowT l] = some (.frz (.bool true), σ) ∧ ∃ t', gv σ 0 = some t' := by
  have ha : nx l 5 < 5 := nx_lt l (by decide)
  obtain ⟨nL, hnL⟩ : ∃ nL, 1 + nx l 5 = nL := ⟨_, rfl⟩
  have hL5 : nL ≤ 5 := by rw [← hnL, Nat.add_comm]; exact ha
  have hL' := le1000 hL5
  have hl1 := dr_len hl 1
  have hq : nx (dr 1 l) 5 < 5 := nx_lt _ (by decide)
  have hq' : nx (dr 1 l) 5 ≤ 1000 := Nat.le_trans (Nat.le_of_lt hq) (by decide)
  have hl2 := dr_len hl1 1
  generalize hR1 : dr 1 l = R1 at hl1 hq hq' hl2
  generalize hR2 : dr 1 R1 = R2 at hl2
  generalize hq0 : nx R1 5 = q at hq hq'
  obtain ⟨its, hits⟩ : ∃ its : List (Option Nat), (List.range q).map (fun k => oc (nx (dr k R2) (nL + 1))) = its := ⟨_, rfl⟩
  have hv : ∀ k, nx (dr k R2) (nL + 1) < nL + 1 := fun k => nx_lt _ (Nat.succ_pos _)
  have hil : its.length ≤ 900 := by rw [← hits, List.length_map, List.length_range]; exact Nat.le_trans (Nat.le_of_lt hq) (by decide)
  have hil' : its.length ≤ 1000 := Nat.le_trans hil (by decide)
  have h5 : ∀ j, some j ∈ its → j < nL := fun j hj => by
    rw [← hits] at hj
    obtain ⟨k, _, hk⟩ := List.mem_map.1 hj
    exact oc_lt (hv k) hk
  have hfz : (ol q fun k => cdf id (oc (nx (dr k R2) (nL + 1)))).freeze = .list (its.map (cdf id)) := by
    rw [freeze_ol, ← hits, List.map_map]; rfl
  have hl3 := dr_len hl2 q
  generalize hR3 : dr q R2 = R3 at hl3
  obtain ⟨ks, hks⟩ : ∃ ks : List Nat, (List.range 5).filter (fun k => decide ((0 : Int) < nx (dr k R3) 3)) = ks := ⟨_, rfl⟩
  have hk5 : ∀ j, j ∈ ks → j < 5 := fun j hj => by rw [← hks] at hj; exact List.mem_range.1 (List.mem_filter.1 hj).1
  have hkl : ks.length ≤ 900 := by rw [← hks]; exact Nat.le_trans (List.length_filter_le _ _) (by decide)
  obtain ⟨kw1, -, kw3, -, kw5⟩ := k_all (hasL its) nL
  have hkp : (kL (hasL its) nL).length ≤ 1000 := by rw [kw1]; exact Nat.le_trans kw3 hL'
  have hkp' : (ks.map chr).length ≤ 1000 := by rw [List.length_map]; exact Nat.le_trans hkl (by decide)
  have hcl : (.none :: iL nL : List D).length = nL + 1 := by rw [List.length_cons, iL, rg_length]
  have h15 : ∀ j, some j ∈ its → j < 5 := fun j hj => Nat.lt_of_lt_of_le (h5 j hj) hL5
  have hsl : slcT (rg 5 chr) ((1 + nx l 5 : Nat) : Int) = some (ol nL chr) := by rw [hnL]; exact slc_rg chr hL5 (by decide)
  let v : D := facD (its.map (cdf id)) (rg nL chr)
  let fo : D := facD (its.map (cdf (kN (hasL its)))) (kL (hasL its) nL)
  let tx : D := .list (its.map txt)
  have hu := used_ok hL5 hil' h5
  let fx (n : Nat) (hn : 5 ≤ n) : Tr := [none, qF (nxt (v := nx l 5) (lim := 5) (Nat.le_trans (by decide) hn) hl (by decide) rfl hR1), tF hsl, zoF nL chr,
    none, lnF chr hL', lF (range_1 (Nat.le_trans hL5 (by decide))), cpF (l := iL nL) (by rw [iL, rg_length]; exact hL'), zlF (iL nL), tF (cat_ok (x := [.none]) (y := iL nL) (by rw [iL, rg_length]; exact Nat.le_trans (Nat.add_le_add_left hL5 1) (by decide))), zlF (.none :: iL nL),
    qF (ev_compS (cf := callN n) (cn := newN n) (i := 12) (it := .range [(.callr .f_law_next 0 [(.pu (.cst (.int 5)))])]) (elt := .op .item [(.pu (.var 3)), (.callr .f_law_next 0 [(.pu (.op .len [(.var 3)]))])]) (n := q) (g := fun k => .int k) (σ := fS R1 (dS (fl nL chr)) (dS (.list (.none :: iL nL))) none none none none none none none) (fun k => cdf id (oc (nx (dr k R2) (nL + 1)))) (fun k => fS (dr k R2) (dS (fl nL chr)) (dS (.list (.none :: iL nL))) none none none none none none none)
      (run_i [qF (nxt (lim := 5) (Nat.le_trans (by decide) hn) hl1 (by decide) hq0 hR2), rgF hq']) hq' fun k hk => run_e [tF (len_list hcl (Nat.le_trans (Nat.succ_le_succ hL5) (by decide))), nxF (lim := nL + 1) hn (dr_len hl2 k) (Nat.succ_pos _), tF (item_list (l := .none :: iL nL) (k := nx (dr k R2) (nL + 1)) (Nat.le_trans (Nat.le_of_lt_succ (hv k)) hL') (codes_at (hv k)))]),
    zF hfz, cpF (l := its.map (cdf id)) (by rw [List.length_map]; exact hil'), zlF (its.map (cdf id)), cF hn (character_ok (l := rg nL chr) (by rw [rg_length]; exact hL')) rfl, none, none, cF hn (character_ok (l := [.str "factor"]) (Nat.le_of_ble_eq_true rfl)) rfl, none, none,
    tF (new_vec3 (Nat.le_trans (by decide) hn) "integer" (.list (its.map (cdf id))) (.dict [("levels", chD (rg nL chr)), ("class", chD [.str "factor"])])), none,
    qF (ev_compL (cf := callN n) (cn := newN n) (i := 13) (it := .ex (.pu (.var 4))) (elt := (cp (unz (xE (stm b_f_law_factors 5)))).2.2.2) (σ := fS R3 (dS (fl nL chr)) (dS (.list (.none :: iL nL))) (dS (.list (its.map (cdf id)))) (dS v) none none none none none) its (cdf id) txt (run_i []) hil' fun o ho => by
      cases o with
      | none => exact run_e []
      | some j => exact run_e [tF (item_i chr (sub1 j) (h5 j ho) hL')]),
    zlF (its.map txt), cF hn hu rfl,
    qF (ev_compF (cf := callN n) (cn := newN n) (i := 14) (it := .ex (.pu (.var 2))) (c := .pu .inn (.var 14) (.var 6)) (elt := .pu (.var 14)) (σ := fS R3 (dS (fl nL chr)) (dS (.list (.none :: iL nL))) (dS (.list (its.map (cdf id)))) (dS v) (dS tx) (dS fo) none none none) (List.range nL) chr (hasL its) (run_i []) (by rw [List.length_range]; exact hL')
      (fun j hj => run_c [tF (prim_inn (x := chr j) rfl (pyIn_txt h15 (Nat.lt_of_lt_of_le (List.mem_range.1 hj) hL5)))]) (fun j hj => run_e [])),
    zF (t := .olist ((((List.range nL).filter (hasL its)).map chr).map .frz)) (d := .list (kL (hasL its) nL)) (by rw [kL_eq]; exact freeze_l _),
    cpF hkp, zlF (kL (hasL its) nL), nes (a := .list (kL (hasL its) nL)) (eq_list (by rw [kL_eq]; exact chrs_eq _)), nes (a := .list (its.map (cdf id))) (eq_list (cdfs_eq its)),
    qF (ev_compL (cf := callN n) (cn := newN n) (i := 15) (it := .ex (.pu (.op (.attr "items") [(.var 7)]))) (elt := .frz (.ite (.pu .isn (.var 15) (.cst .none)) (.pu (.cst .none)) (.pu (.op .item [(.var 8), (.op .sub [(.var 15), (.cst (.int 1))])])))) (σ := fS R3 (dS (fl nL chr)) (dS (.list (.none :: iL nL))) (dS (.list (its.map (cdf id)))) (dS v) (dS tx) (dS fo) (dS (.list (kL (hasL its) nL))) none none) its (cdf (kN (hasL its))) txt (run_i []) hil' fun o ho => by
      cases o with
      | none => exact run_e []
      | some j =>
        have hk := (kw5 j (h5 j ho) (decide_eq_true ho)).2
        exact run_e [tF (item_li (sub1 (kN (hasL its) j)) (Nat.le_trans (Nat.le_of_lt (List.getElem?_eq_some_iff.1 hk).1) hkp) hk)]),
    zlF (its.map txt), nes (a := tx) (eq_list (txts_eq its)),
    qF (ev_compSF (cf := callN n) (cn := newN n) (i := 16) (it := .ex (.pu (.var 1))) (c := .cmp .gt (.callr .f_law_next 0 [(.pu (.cst (.int 3)))]) (.pu (.cst (.int 0)))) (elt := .pu (.var 16)) (n := 5) (g := chr) (σ := fS R3 (dS (fl nL chr)) (dS (.list (.none :: iL nL))) (dS (.list (its.map (cdf id)))) (dS v) (dS tx) (dS fo) (dS (.list (kL (hasL its) nL))) none none) (fun k => decide ((0 : Int) < nx (dr k R3) 3)) (fun k => fS (dr k R3) (dS (fl nL chr)) (dS (.list (.none :: iL nL))) (dS (.list (its.map (cdf id)))) (dS v) (dS tx) (dS fo) (dS (.list (kL (hasL its) nL))) none none) (run_i []) (by decide)
      (fun k hk => run_c [nxF (lim := 3) hn (dr_len hl3 k) (by decide), tF (p_gt (a := nx (dr k R3) 3) (b := 0) rfl)]) (fun k hk => run_e [])),
    zF (t := .olist ((((List.range 5).filter (fun k => decide ((0 : Int) < nx (dr k R3) 3))).map chr).map .frz)) (d := .list (ks.map chr)) (by rw [hks]; exact freeze_l _)]
  let Z (x10 : Option T) : Sg := fS (dr 5 R3) (dS (fl nL chr)) (dS (.list (.none :: iL nL))) (dS (.list (its.map (cdf id)))) (dS v) (dS tx) (dS fo) (dS (.list (kL (hasL its) nL))) (dS (.list (ks.map chr))) x10
  have hst : ∀ (n : Nat) (told : D), ev (callN n) (newN n) (unz (xE (stm b_f_law_factors 12))) (Z (dS told)) = some (.olist (((its.filter (strg ks)).map txt).map .frz), Z (dS told)) := fun n told =>
    ev_compF (cf := callN n) (cn := newN n) (i := 17) (it := .ex (.pu (.var 6))) (c := .bop true [(.pu .isnt (.var 17) (.cst .none)), (.pu .nin (.var 17) (.var 9))]) (elt := .pu (.var 17)) (σ := Z (dS told)) its txt (strg ks) (run_i []) hil' (fun o ho => by
      cases o with
      | none => exact run_c []
      | some j =>
        have h := prim_nin (x := chr j) rfl (pyIn_chr hk5 (h15 j ho))
        rw [strg]
        cases hb : decide (j ∈ ks) with
        | true => rw [hb] at h; exact run_c [tF h]
        | false => rw [hb] at h; exact run_c [tF h]) (fun o ho => run_e [])
  cases hf : its.find? (strg ks) with
  | none =>
    have hs : ∀ o, o ∈ its → strg ks o = false := fun o ho => Bool.not_eq_true _ ▸ List.find?_eq_none.1 hf o ho
    have hnil : its.filter (strg ks) = [] := List.filter_eq_nil_iff.2 fun o ho => by rw [hs o ho]; exact Bool.false_ne_true
    rw [hnil] at hst
    have hix : ∀ j, some j ∈ its → (ks.map chr)[iX ks j]? = some (chr j) ∧ iX ks j ≤ 1000 := fun j hj => by
      have hm : j ∈ ks := by simpa [strg] using hs _ hj
      exact ⟨(ix_get hm).1, Nat.le_trans (Nat.le_of_lt (ix_get hm).2) (Nat.le_trans hkl (by decide))⟩
    obtain ⟨σ, h1, h2⟩ := retsG (f := .f_law_factors) (args := [rowT l]) (t := .frz (.bool true)) (t' := rowT (dr 5 R3)) (c := 5) rfl hn fun n hn => fx n hn ++ [cF hn (rel_known hL5 hil h5 hkl hk5 hs) rfl, qF (hst n (facD (its.map (cdf (iX ks))) (ks.map chr))), none, none, none,
      cpF hkp', zlF (ks.map chr), nes (a := .list (ks.map chr)) (eq_list (chrs_eq ks)),
      qF (ev_compL (cf := callN n) (cn := newN n) (i := 18) (it := .ex (.pu (.op (.attr "items") [(.var 10)]))) (elt := .frz (.ite (.pu .isn (.var 18) (.cst .none)) (.pu (.cst .none)) (.pu (.op .item [(.var 9), (.op .sub [(.var 18), (.cst (.int 1))])])))) (σ := (Z (dS (facD (its.map (cdf (iX ks))) (ks.map chr)))).set 11 (dS (.list []))) its (cdf (iX ks)) txt (run_i []) hil' fun o ho => by
        cases o with
        | none => exact run_e []
        | some j => exact run_e [tF (item_li (sub1 (iX ks j)) (hix j ho).2 (hix j ho).1)]),
      zlF (its.map txt), tF (p_eqs (a := tx) rfl (eq_list (txts_eq its)))]
    exact ⟨σ, h1, _, h2⟩
  | some o =>
    obtain ⟨hso, as, bs, he, hs⟩ := List.find?_eq_some_iff_append.1 hf
    cases o with
    | none => cases hso
    | some j =>
      have hs : ∀ o, o ∈ as → strg ks o = false := fun o ho => by simpa using hs o ho
      have hj : j ∉ ks := by simpa [strg] using hso
      have hj5 := h15 j (by rw [he]; exact List.mem_append_right _ (.head _))
      have hfl : its.filter (strg ks) = some j :: bs.filter (strg ks) := by
        rw [he, List.filter_append, List.filter_eq_nil_iff.2 fun o ho => by rw [hs o ho]; exact Bool.false_ne_true, List.filter_cons_of_pos hso]; rfl
      rw [hfl] at hst
      obtain ⟨σ, h1, h2⟩ := retsG (f := .f_law_factors) (args := [rowT l]) (t := .frz (.bool true)) (t' := rowT (dr 5 R3)) (c := 5) rfl hn fun n hn => fx n hn ++ [cF hn (rel_new hL5 hil h5 hkl hk5 he hj hs) rfl, qF (hst n (.str ("factor g has new level " ++ chS j))), zlF ((some j :: bs.filter (strg ks)).map txt), none,
        tF (ne_nil (x := chr j) (l := (bs.filter (strg ks)).map txt) (txts_eq (some j :: bs.filter (strg ks)))), none, tF (add_str (a := "factor g has new level ") (b := chS j) (by rw [chS_len j hj5]; decide)), tF (p_eqs (a := .str ("factor g has new level " ++ chS j)) rfl (eq_str 4 _))]
      exact ⟨σ, h1, _, h2⟩
end MineP.Internal
end
section
set_option maxRecDepth 10000
namespace MineP.Internal
open Mine.Internal
theorem told_part {b : Bool} {a1 a2 zv a4 zs za fs cv d : D} {x : String} (j : Nat) (h1 : ∀ b, pyIn (.str x) (snL b) = some true) (h2 : ∀ b, (strList (snL b)).bind (sIndex x) = some j) (h3 : ∀ b, (siL a1 a2 zv a4 zs za fs cv b)[j]? = some d) (hj : Nat.ble j 1000 = true) :
    Rets 4 .f_part [.frz (sumD b a1 a2 zv a4 zs za fs cv), .frz (.str x)] (.frz d) :=
  part_ok rfl rfl (by cases b <;> exact Nat.le_of_ble_eq_true rfl) (h1 b) (h2 b) (h3 b) hj
section
variable {b : Bool} {a1 a2 zv a4 zs za fs cv : D}
theorem p_coef : Rets 4 .f_part [.frz (sumD b a1 a2 zv a4 zs za fs cv), .frz (.str "coefficients")] (.frz a2) := told_part 2 (fun b => by cases b <;> rfl) (fun b => by cases b <;> rfl) (fun b => by cases b <;> rfl) rfl
theorem p_df : Rets 4 .f_part [.frz (sumD b a1 a2 zv a4 zs za fs cv), .frz (.str "df")] (.frz a4) := told_part 4 (fun b => by cases b <;> rfl) (fun b => by cases b <;> rfl) (fun b => by cases b <;> rfl) rfl
theorem p_res : Rets 4 .f_part [.frz (sumD b a1 a2 zv a4 zs za fs cv), .frz (.str "residuals")] (.frz a1) := told_part 1 (fun b => by cases b <;> rfl) (fun b => by cases b <;> rfl) (fun b => by cases b <;> rfl) rfl
theorem p_sig : Rets 4 .f_part [.frz (sumD b a1 a2 zv a4 zs za fs cv), .frz (.str "sigma2")] (.frz zv) := told_part 3 (fun b => by cases b <;> rfl) (fun b => by cases b <;> rfl) (fun b => by cases b <;> rfl) rfl
theorem p_rsq : Rets 4 .f_part [.frz (sumD b a1 a2 zv a4 zs za fs cv), .frz (.str "r.squared")] (.frz zs) := told_part 5 (fun b => by cases b <;> rfl) (fun b => by cases b <;> rfl) (fun b => by cases b <;> rfl) rfl
theorem p_adj : Rets 4 .f_part [.frz (sumD b a1 a2 zv a4 zs za fs cv), .frz (.str "adj.r.squared")] (.frz za) := told_part 6 (fun b => by cases b <;> rfl) (fun b => by cases b <;> rfl) (fun b => by cases b <;> rfl) rfl
theorem p_fst : Rets 4 .f_part [.frz (sumD true a1 a2 zv a4 zs za fs cv), .frz (.str "fstatistic")] (.frz fs) := part_ok (j := 7) rfl rfl (Nat.le_of_ble_eq_true rfl) rfl rfl rfl rfl
theorem p_nofst : Rets 4 .f_part [.frz (sumD false a1 a2 zv a4 zs za fs cv), .frz (.str "fstatistic")] (.frz .none) := part_none rfl rfl (Nat.le_of_ble_eq_true rfl) rfl
end
noncomputable def lS (x0 : Option T) (l : List Int) (m f : Nat) (hv : Bool) (co y w na : D) (x9 x10 x11 x12 x13 x14 x15 : Option T) : Sg := [x0, some (rowT l), iS m, iS f, some (.frz (.bool hv)), dS co, dS y, dS w, dS na, x9, x10, x11, x12, x13, x14, x15, none, none, none, none, none, none, none, none, none, none]
theorem divInt_iR (a b : Int) : Rat.divInt a b = iR a / iR b := by
  exact Rat.divInt_eq_div a b
theorem law_pair {A : Nat} {x : Rat} {a d : Int} (hx : H A x) (ha : a.natAbs ≤ 8) (hd : d.natAbs ≤ 8) (h0 : d ≠ 0) (h : Room (A + 3)) : Rets 2 .f_law_mul [.frz (rD x), .frz (qD (a, d))] (.frz (rD (x * (iR a / iR d)))) := by
  have := law_mul_pair hx (show HP 3 (a, d) from ⟨ha, hd⟩) h0 h
  rwa [divInt_iR] at this
theorem law_one {A : Nat} {x : Rat} {d : Int} (hx : H A x) (hd : d.natAbs ≤ 8) (h0 : d ≠ 0) (h : Room (A + 3)) : Rets 2 .f_law_mul [.frz (rD x), .frz (qD (1, d))] (.frz (rD (x / iR d))) := by
  have := law_mul_pair (a := 1) hx (show HP 3 (1, d) from ⟨(by decide : (1 : Int).natAbs ≤ 2 ^ 3), hd⟩) h0 h
  rwa [iR_inv] at this
theorem one_q : ((1, 1) : Q) = rp 1 := rfl
theorem adP_rp {T U : Rat} {n df : Int} (hT : T ≠ 0) (hd : df ≠ 0) : adP T U n df = rp (1 - U / T * (iR n / iR df)) := by
  have h : 1 - (T - U) / T = U / T := by grind
  rw [adP, shP, rp_div hT, ← rp_int n, divP_int hd, one_q, rp_neg, rp_add, ← Rat.sub_eq_add_neg, h, rp_mul, rp_neg, rp_add, ← Rat.sub_eq_add_neg]
theorem ret_callr {cf : Cf} {cn : Cn} {f : Fn} {i : Nat} {σ σ' : Sg} {a t t' : T} (h : gv σ i = some a) (h1 : cf f [a] = some (t, σ')) (h2 : gv σ' 0 = some t') : (xss cf cn [.ret (.callr f i [])] σ).bind flT = some t := by
  show Option.bind (Option.bind (Option.bind (Option.bind (gv σ i) _) _) _) _ = _
  rw [h]
  show Option.bind (Option.bind (Option.bind (Option.bind (cf f [a]) _) _) _) _ = _
  rw [h1]
  show Option.bind (Option.bind (Option.bind (Option.bind (gv σ' 0) _) _) _) _ = _
  rw [h2]; rfl
theorem ints_eq (l : List Int) : ∀ d, d ∈ l.map D.int → pyEq 3 d d = some true := fun d hd => by
  obtain ⟨i, _, rfl⟩ := List.mem_map.1 hd
  exact eq_int 3 i
theorem fst_eq (q : Q) (a b : Int) : ∀ d, d ∈ fstL (qD q) a b → pyEq 3 d d = some true := fun d hd => by
  have h : ∀ l : List Q, ∀ d, d ∈ l.map qD → pyEq 3 d d = some true := fun l d hd => by
    obtain ⟨i, _, rfl⟩ := List.mem_map.1 hd
    exact eq_q 2 i
  exact h [q, (a, 1), (b, 1)] d hd
section
variable {hv free : Bool} {c m : Nat} {X : Nat → Nat → Rat} {w y : Nat → Rat} {as_ : D} {O : OS} {st : Nat → Rat} {co : Nat → D} {re v : Nat → Rat} {x0 : Option T} {l : List Int}
theorem law_tail (hm0 : 0 < m) (hm : m ≤ 5) (hc : c ≤ 4) (hX : ∀ j, j < c → HV m 3 (X j)) (hw : HV m 2 w) (hy : HV m 3 y) (h1 : hv = false → ∀ k, w k = 1) (hp : ∀ k, k < m → 0 < w k) (hf : free = true → 0 < c ∧ ∀ k, k < m → X 0 k = 1)
    (G : GS m w X c O) (S : TS m w O y O.r re st) (hco : ∀ i, i < O.r → co (O.p i) = rD (v i)) (hl : l.length ≤ 1000) {Tt U : Rat} (hTe : tot free m w y = Tt) (hUe : ip m w re re = U) {n : Nat} (hn : 13 ≤ n) :
    (xss (callN n) (newN n) (b_f_law.drop 16) (lS x0 l m (fr1 free) hv (mD c m X) (vD m y) (vD m w) (fl c namesN) (dS (designD c m X y (wD hv m w) free (frameD m y) as_)) (dS (fitD c m O st co (fun k => y k - re k) re (wD hv m w))) none none none none none)).bind flT = some (.frz (.bool true)) := by
  have hr : O.r ≤ 4 := Nat.le_trans G.rj hc
  have hr' : O.r ≤ 1000 := Le.t hr rfl
  have hc' : c ≤ 1000 := Le.t hc rfl
  have hm' := le1000 hm
  have hws := sm_pos hm0 hp
  have hre : HV m 1048573 re := S.u4 hr
  have hfi : HV m 1048577 fun k => y k - re k := fun k hk => (H_sub (hy k hk) (hre k hk)).up rfl
  have hT : H 505 (tot free m w y) := H_tot hm hw hy
  have hU := ip_H hm hw hre
  have e1 := law_dot_ok 2097200 hm hre hre hw
  have e2 := law_covariance_ok (y := y) (free := free) (fr := frameD m y) (as_ := as_) (st := st) (co := co) (fi := fun k => y k - re k) hm hc hr hX hw h1 hre G rfl
  have e3 := summary_ok (y := y) (free := free) (fr := frameD m y) (as_ := as_) (st := st) (co := co) hm hc hr hw h1 hws hre hfi G hT rfl (ss_law G S hws hf)
  have e4 := square_ok (free := free) hm hw hws hy
  rw [hTe] at hT e3 e4
  rw [hUe] at hU e1 e2 e3
  generalize wD hv m w = we at e2 e3
  have hEH := H_sub hT hU
  have hd8 := df8 hm hr
  have hf1 : fr1 free ≤ 1 := by cases free <;> decide
  have hs8 : ((O.r : Int) - fr1 free).natAbs ≤ 8 := by lia
  have hn8 : ((m : Int) - O.r + O.r - fr1 free).natAbs ≤ 8 := by lia
  let told : D := sumD (decide (0 < (O.r : Int) - fr1 free)) (resD m re) (coD O co (vaP m O.r U)) (dbD (qD (vaP m O.r U))) (inD [.int O.r, .int ((m : Int) - O.r), .int c]) (dbD (qD (shP Tt U))) (dbD (qD (adP Tt U ((m : Int) - O.r + O.r - fr1 free) ((m : Int) - O.r)))) (fstD (qD (fvP (Tt - U) U ((O.r : Int) - fr1 free) ((m : Int) - O.r))) ((O.r : Int) - fr1 free) ((m : Int) - O.r)) (cvD O)
  have pc : Rets 4 .f_part [.frz told, .frz (.str "coefficients")] (.frz (coD O co (vaP m O.r U))) := p_coef
  have pd : Rets 4 .f_part [.frz told, .frz (.str "df")] (.frz (inD [.int O.r, .int ((m : Int) - O.r), .int c])) := p_df
  have pr : Rets 4 .f_part [.frz told, .frz (.str "residuals")] (.frz (resD m re)) := p_res
  have ps : Rets 4 .f_part [.frz told, .frz (.str "sigma2")] (.frz (dbD (qD (vaP m O.r U)))) := p_sig
  have pq : Rets 4 .f_part [.frz told, .frz (.str "r.squared")] (.frz (dbD (qD (shP Tt U)))) := p_rsq
  have pa : Rets 4 .f_part [.frz told, .frz (.str "adj.r.squared")] (.frz (dbD (qD (adP Tt U ((m : Int) - O.r + O.r - fr1 free) ((m : Int) - O.r))))) := p_adj
  let Z0 (x11 x12 x13 x14 x15 : Option T) : Sg := lS x0 l m (fr1 free) hv (mD c m X) (vD m y) (vD m w) (fl c namesN) (dS (designD c m X y we free (frameD m y) as_)) (dS (fitD c m O st co (fun k => y k - re k) re we)) x11 x12 x13 x14 x15
  let Z : Sg := Z0 (dS (rD U)) (dS told) (dS (rD Tt)) (dS (.list (nmL O))) (dS (coD O co (vaP m O.r U)))
  have hne : pyEq 4 (.list (nmL O)) (.list (nmL O)) = some true := eq_rg fun i hi => eq_str 3 _
  have hrr : O.r ≤ O.r * 2 := Nat.le_mul_of_pos_right _ (by decide)
  have hfl : fl O.r (flat O.r (two (fun i => co (O.p i)) fun i => qD (cK O (vaP m O.r U) i i))) = fl O.r fun i => co (O.p i) := fl_congr fun i hi => by
    have := flat_at (k := O.r) (i := 0) (j := i) (K := two (fun i => co (O.p i)) fun i => qD (cK O (vaP m O.r U) i i)) hi
    rw [Nat.mul_zero, Nat.zero_add] at this
    exact this
  have hfe : pyEq 4 (fl O.r (flat O.r (two (fun i => co (O.p i)) fun i => qD (cK O (vaP m O.r U) i i)))) (fl O.r (flat O.r (two (fun i => co (O.p i)) fun i => qD (cK O (vaP m O.r U) i i)))) = some true := by
    rw [hfl]; exact eq_rg fun i hi => by rw [hco i hi]; exact eq_q 2 _
  refine seqV 8 (σ' := Z) (run_ss [cF hn e1 rfl, cF hn e2 rfl, cF hn null_ok rfl, none, cF hn e3 rfl, cF hn e4 rfl,
    qF (comp_ok (cf := callN n) (cn := newN n) (unz (xE (stm b_f_law 20))) (n := O.r) (g := fun i => .int (O.p i)) (fun i => namesN (O.p i)) (Z0 (dS (rD U)) (dS told) (dS (rD Tt)) none none) hr' [] fun k hk => [itF namesN (G.pj k hk) hc']),
    zoF O.r fun i => namesN (O.p i), cF hn pc rfl, none, none, none, nes (a := .list [.int O.r, .int 2]) (eq_list (ints_eq [O.r, 2])),
    tF (slc_rg (flat O.r (two (fun i => co (O.p i)) fun i => qD (cK O (vaP m O.r U) i i))) hrr (Nat.le_trans (Nat.mul_le_mul_right 2 hr) (by decide))), zoF O.r (flat O.r (two (fun i => co (O.p i)) fun i => qD (cK O (vaP m O.r U) i i))), cgF (flat O.r (two (fun i => co (O.p i)) fun i => qD (cK O (vaP m O.r U) i i))) hr', zoF O.r (flat O.r (two (fun i => co (O.p i)) fun i => qD (cK O (vaP m O.r U) i i))),
    qF (comp_ok (cf := callN n) (cn := newN n) (.comp 24 (.ex (.pu (.op (.attr "pivots") [(.var 10)]))) none (.pu (.op .item [(.op (.attr "coefficients") [(.var 10)]), (.var 24)]))) (n := O.r) (g := fun i => .int (O.p i)) (fun i => co (O.p i)) Z hr' [] fun k hk => [itF co (G.pj k hk) hc']),
    zoF O.r fun i => co (O.p i), tF (p_nes hfl hfe)]) ?_
  refine seqV 1 (σ' := Z) ?_ (seqV 2 (σ' := Z) (run_ss [cF hn pd rfl, none, none, lnM m X hc', none, nes (a := .list [.int O.r, .int ((m : Int) - O.r), .int c]) (eq_list (ints_eq [O.r, (m : Int) - O.r, c])),
    cF hn pr rfl, cgF rowsN hm', zoF m rowsN, qF (comp_ok (cf := callN n) (cn := newN n) (.comp 25 (.range [(.pu (.var 2))]) none (.pu (.op .str [(.op .add [(.var 25), (.cst (.int 1))])]))) (n := m) (g := fun i => .int i) rowsN Z hm' [rgF hm'] fun k hk => [tF (str_row (Nat.le_trans hm (by decide)) hk)]),
    zoF m rowsN, nes (a := fl m rowsN) (eq_rg fun i hi => eq_str 3 _)]) (seqV 1 (σ' := Z) ?_ (seqV 1 (σ' := Z) ?_ (seqV 1 (σ' := Z) ?_ (seqV 1 (σ' := Z) ?_ ?_)))))
  · by_cases h : (0 : Int) < O.r
    · exact run_ss [gt1 h, none, cgF (fun i => namesN (O.p i)) hr', zoF O.r fun i => namesN (O.p i), nes hne]
    · exact run_ss [gt0 h]
  · by_cases hs : 0 < (O.r : Int) - fr1 free
    · have h : Rets 4 .f_part [.frz told, .frz (.str "fstatistic")] (.frz (fstD (qD (fvP (Tt - U) U ((O.r : Int) - fr1 free) ((m : Int) - O.r))) ((O.r : Int) - fr1 free) ((m : Int) - O.r))) := by
        show Rets 4 _ [.frz (sumD (decide _) _ _ _ _ _ _ _ _), _] _
        rw [decide_eq_true hs]; exact p_fst
      exact run_ss [cF hn h rfl, leI (a := O.r) (b := fr1 free) (decide_eq_false (fun q => by lia)), none]
    · have h : Rets 4 .f_part [.frz told, .frz (.str "fstatistic")] (.frz .none) := by
        show Rets 4 _ [.frz (sumD (decide _) _ _ _ _ _ _ _ _), _] _
        rw [decide_eq_false hs]; exact p_nofst
      exact run_ss [cF hn h rfl, leI (a := O.r) (b := fr1 free) (decide_eq_true (by lia)), none]
  · by_cases hd : 0 < (m : Int) - O.r
    · have h0 := Int.ne_of_gt hd
      exact run_ss [gt1 hd, cF hn ps rfl, none, cF hn (law_one hU hd8 h0 rfl) rfl, tF (p_nes (b := rD (U / iR ((m : Int) - O.r))) (congrArg qD (divP_int h0)) (eq_q 3 _))]
    · exact run_ss [gt0 hd]
  · by_cases hT0 : Tt = 0
    · exact run_ss [ne0 (num0 hT0)]
    · let fx : Tr := [ne1 (rp1 hT0), cF hn (law_minus_ok hT hU rfl) rfl, cF hn (law_by_ok hEH hT rfl hT0) rfl, cF hn pq rfl, none, tF (p_nes (a := qD (shP Tt U)) (b := rD ((Tt - U) / Tt)) (congrArg qD (rp_div hT0)) (eq_q 3 _))]
      by_cases hd : 0 < (m : Int) - O.r
      · have h0 := Int.ne_of_gt hd
        have hB := H_div hU hT
        have hL := H_mul hB (H_div (H_small hn8) (H_small hd8))
        exact run_ss (fx ++ [gt1 hd, cF hn (law_by_ok hU hT rfl hT0) rfl, cF hn (law_pair hB hn8 hd8 h0 rfl) rfl, cF hn pa rfl, none, cF hn (law_minus_ok H_one hL rfl) rfl, tF (p_nes (a := qD (adP Tt U ((m : Int) - O.r + O.r - fr1 free) ((m : Int) - O.r))) (b := rD (1 - U / Tt * (iR ((m : Int) - O.r + O.r - fr1 free) / iR ((m : Int) - O.r)))) (congrArg qD (adP_rp hT0 h0)) (eq_q 3 _))])
      · exact run_ss (fx ++ [gt0 hd])
  · by_cases hs : (fr1 free : Int) < O.r
    · by_cases hd : 0 < (m : Int) - O.r
      · by_cases hU0 : U = 0
        · exact run_ss [gt1 hs, gt1 hd, ne0 (num0 hU0)]
        · have hs0 : 0 < (O.r : Int) - fr1 free := Int.sub_pos_of_lt hs
          have h1 := Int.ne_of_gt hs0
          have h0 := Int.ne_of_gt hd
          have h : Rets 4 .f_part [.frz told, .frz (.str "fstatistic")] (.frz (fstD (qD (fvP (Tt - U) U ((O.r : Int) - fr1 free) ((m : Int) - O.r))) ((O.r : Int) - fr1 free) ((m : Int) - O.r))) := by
            show Rets 4 _ [.frz (sumD (decide _) _ _ _ _ _ _ _ _), _] _
            rw [decide_eq_true hs0]; exact p_fst
          have hne : U / iR ((m : Int) - O.r) ≠ 0 := by
            have := iR_ne h0
            grind
          exact run_ss [gt1 hs, gt1 hd, ne1 (rp1 hU0), cF hn (law_minus_ok hT hU rfl) rfl, cF hn (law_one hEH hs8 h1 rfl) rfl, cF hn (law_one hU hd8 h0 rfl) rfl, cF hn (law_by_ok (H_div hEH (H_small hs8)) (H_div hU (H_small hd8)) rfl hne) rfl, cF hn h rfl, none, none, none,
            tF (p_nes (a := .list (fstL (qD (fvP (Tt - U) U ((O.r : Int) - fr1 free) ((m : Int) - O.r))) ((O.r : Int) - fr1 free) ((m : Int) - O.r))) (b := .list (fstL (rD ((Tt - U) / iR ((O.r : Int) - fr1 free) / (U / iR ((m : Int) - O.r)))) ((O.r : Int) - fr1 free) ((m : Int) - O.r))) (congrArg (fun q => D.list (fstL (qD q) ((O.r : Int) - fr1 free) ((m : Int) - O.r))) (fvP_rp h1 h0 hU0)) (eq_list (fst_eq _ _ _)))]
      · exact run_ss [gt1 hs, gt0 hd]
    · exact run_ss [gt0 hs]
  · obtain ⟨σ, h1, t', h2⟩ := factors_ok (n := n) (Nat.le_trans (by decide) hn) hl
    exact ret_callr rfl h1 h2
end
end MineP.Internal
end
section
set_option maxRecDepth 10000
namespace MineP.Internal
open Mine.Internal
noncomputable def hS (x0 x1 x2 x3 x4 x5 x6 x7 x8 x9 : Option T) : Sg := [x0, x1, x2, x3, x4, x5, x6, x7, x8, x9, none, none, none, none, none, none, none, none, none, none, none, none, none, none, none, none]
section
variable {hv free : Bool} {c m n : Nat} {X : Nat → Nat → Rat} {w y : Nat → Rat} {x0 : Option T} {l : List Int}
theorem assign_ok (free : Bool) (hc : c ≤ 4) : ∃ a : List D, a.length ≤ 1000 ∧ rangeItems [.frz (.int (1 - (fr1 free : Int))), .frz (.int (1 - (fr1 free : Int) + (c : Int)))] = some a := by
  have hc' : 1 + c ≤ 1000 := Le.t (Nat.add_le_add_left hc 1) rfl
  cases free with
  | false => exact ⟨_, Nat.le_trans (Nat.le_of_eq (rg_length _ _)) (Nat.le_trans (Nat.sub_le _ _) hc'), range2 (a := 1) (b := 1 + c) (by decide) hc'⟩
  | true => exact ⟨_, Nat.le_trans (Nat.le_of_eq (rg_length _ _)) (Nat.le_trans (Nat.sub_le _ _) (Le.t hc rfl)), (congrArg (fun z => rangeItems [.frz (.int 0), .frz (.int z)]) (Int.zero_add _)).trans (range2 (a := 0) (b := c) (by decide) (Le.t hc rfl))⟩
theorem des_freeze {a : List D} {yy we : D} : (desT c m free y (.frz (mD c m X)) (.frz (fl c namesN)) (.olist (a.map .frz)) (.frz yy) (.frz we)).freeze = .inst .design [("terms", termsD free), ("frame", frameD m y), ("columns", mD c m X), ("names", fl c namesN), ("assign", .list a), ("y", yy), ("weights", we), ("offset", .none), ("rows", fl m rowsN)] := by
  show D.inst .design _ = _
  simp only [freezeF, freeze_l]
  rfl
theorem law_mid (hm0 : 0 < m) (hm : m ≤ 5) (hc : c ≤ 4) (hX : ∀ j, j < c → HV m 3 (X j)) (hw : HV m 2 w) (hy : HV m 3 y) (h1 : hv = false → ∀ k, w k = 1) (hp : ∀ k, k < m → 0 < w k) (hf : free = true → 0 < c ∧ ∀ k, k < m → X 0 k = 1) (hl : l.length ≤ 1000) (hn : 13 ≤ n) :
    (xss (callN n) (newN n) (b_f_law.drop 8) (hS x0 (some (rowT l)) (iS m) (iS (fr1 free)) (some (.frz (.bool hv))) (dS (mD c m X)) (dS (vD m y)) (dS (vD m w)) none none)).bind flT = some (.frz (.bool true)) := by
  have hc' : c ≤ 1000 := Le.t hc rfl
  have hm' := le1000 hm
  have hm9 : m ≤ 900 := Nat.le_trans hm (by decide)
  have G := GS.all hm hw hX (Nat.le_refl c)
  have S := TS.all hm hw G hy (Nat.le_refl _)
  have hco := fun i hi => coN_at (v := (os m w X c).v m w y) G.pm (Nat.le_refl _) i hi
  obtain ⟨a, ha, hr⟩ := assign_ok free hc
  have hfit := fit_design_ok (hv := hv) (free := free) (fr := frameD m y) (as_ := .list a) hm hm0 hc hX hw h1 hp hy
  have htail := law_tail (hv := hv) (free := free) (x0 := x0) (l := l) (as_ := .list a) hm0 hm hc hX hw hy h1 hp hf G S hco hl rfl rfl hn
  have he : prim .eq [.frz (.int (fr1 free)), .frz (.int 1)] = some (.frz (.bool free)) := p_eq (by cases free <;> rfl)
  have hz : (desT c m free y (.frz (mD c m X)) (.frz (fl c namesN)) (.olist (a.map .frz)) (.frz (vD m y)) (.frz (wD hv m w))).freeze = designD c m X y (wD hv m w) free (frameD m y) (.list a) := des_freeze
  let Z (x8 : Option T) (na as_ yy we : T) : Sg := hS x0 (some (rowT l)) (iS m) (iS (fr1 free)) (some (.frz (.bool hv))) (dS (mD c m X)) (dS (vD m y)) (dS (vD m w)) x8 (some (desT c m free y (.frz (mD c m X)) na as_ yy we))
  refine seqV 6 (σ' := Z (dS (fl c namesN)) (.frz (fl c namesN)) (.olist (a.map .frz)) (.frz (vD m y)) (.frz .none)) (run_ss [
    qF (comp_ok (cf := callN n) (cn := newN n) (.comp 22 (.range [(.pu (.op .len [(.var 5)]))]) none (.pu (.op .add [(.cst (.str "v")), (.op .str [(.var 22)])]))) (n := c) (g := fun i => .int i) namesN (hS x0 (some (rowT l)) (iS m) (iS (fr1 free)) (some (.frz (.bool hv))) (dS (mD c m X)) (dS (vD m y)) (dS (vD m w)) none none) hc' [lnM m X hc', rgF hc'] fun k hk => [tF (prim_str k (Nat.lt_of_lt_of_le hk hc')), tF (add_str (Nat.le_of_ble_eq_true (namesN_len k (Nat.lt_of_lt_of_le hk (Nat.le_trans hc (by decide))))))]),
    zoF c namesN, cF hn null_ok rfl, none, none, none, tF he, none, tF (new_terms (Nat.le_trans (by decide) hn) free), none, cF hn (double_ok (l := rg m fun k => rD (y k)) (by rw [rg_length]; exact hm')) rfl, none, none, none, cF hn (frame_ok (y := y) hm9) rfl, tF (new_design (free := free) (y := y) (Nat.le_trans (by decide) hn) hm9),
    lnM m X hc', lF hr, cpF ha]) ?_
  refine seqV 1 (σ' := Z (dS (fl c namesN)) (.frz (fl c namesN)) (.olist (a.map .frz)) (.frz (vD m y)) (.frz (wD hv m w))) ?_ ?_
  · cases hv <;> exact run_ss []
  exact seqV 1 (σ' := lS x0 l m (fr1 free) hv (mD c m X) (vD m y) (vD m w) (fl c namesN) (dS (designD c m X y (wD hv m w) free (frameD m y) (.list a))) (dS (FIT c m w X y hv)) none none none none none) (run_ss [zF hz, cF hn hfit rfl]) htail
theorem tup_thirds : (.list [.tup [.int 1, .int 1], .tup [.int 2, .int 1], .tup [.int 1, .int 3]] : D) = .list [rD 1, rD 2, rD third] := rfl
theorem weights_ok (hv : Bool) (hm : m ≤ 5) (hl : l.length ≤ 1000) {f0 co y0 : D} {x0 : Option T} : ∃ (l' : List Int) (w : Nat → Rat), l'.length ≤ 1000 ∧ HV m 2 w ∧ (hv = false → ∀ k, w k = 1) ∧ (∀ k, k < m → 0 < w k) ∧ ∀ n, 13 ≤ n →
    ev (callN n) (newN n) (unz (xE (stm b_f_law 6))) (hS x0 (some (rowT l)) (iS m) (dS f0) (some (.frz (.bool hv))) (dS co) (dS y0) none none none) = some (ol m fun k => rD (w k), hS x0 (some (rowT l')) (iS m) (dS f0) (some (.frz (.bool hv))) (dS co) (dS y0) none none none) := by
  have hm' := le1000 hm
  cases hv with
  | false => exact ⟨l, one1, hl, fun k _ => H_one.up rfl, fun _ k => rfl, fun k _ => by show (0 : Rat) < 1; decide, fun n hn =>
      comp_st (cf := callN n) (cn := newN n) (unz (xE (stm b_f_law 6))) (n := m) (g := fun k => .int k) (fun k => rD (one1 k)) (fun _ => hS x0 (some (rowT l)) (iS m) (dS f0) (some (.frz (.bool false))) (dS co) (dS y0) none none none) hm' [rgF hm'] fun k hk => []⟩
  | true => exact ⟨dr m l, fun k => wtR (nx (dr k l) 3), dr_len hl m, fun k _ => wtR_H _, fun h => (Bool.noConfusion h), fun k _ => wtR_pos _, fun n hn =>
      comp_st (cf := callN n) (cn := newN n) (unz (xE (stm b_f_law 6))) (n := m) (g := fun k => .int k) (fun k => rD (wtR (nx (dr k l) 3))) (fun k => hS x0 (some (rowT (dr k l))) (iS m) (dS f0) (some (.frz (.bool true))) (dS co) (dS y0) none none none) hm' [rgF hm'] fun k hk =>
        [none, nxF (lim := 3) hn (dr_len hl k) (by decide), tF (item_list (l := [rD 1, rD 2, rD third]) (k := nx (dr k l) 3) (Nat.le_trans (Nat.le_of_lt (nx_lt _ (by decide))) (by decide)) (wtR_at (nx_lt _ (by decide))))]⟩
theorem ones_ok (free : Bool) {c0 : Nat} {X0 : Nat → Nat → Rat} (hc : c0 < 4) (hm : m ≤ 5) (hX : ∀ j, HV m 3 (X0 j)) {y w : D} {x0 : Option T} : ∃ (c : Nat) (X : Nat → Nat → Rat), c ≤ 4 ∧ (∀ j, j < c → HV m 3 (X j)) ∧ (free = true → 0 < c ∧ ∀ k, k < m → X 0 k = 1) ∧ ∀ n,
    xss (callN n) (newN n) [stm b_f_law 7] (hS x0 (some (rowT l)) (iS m) (iS (fr1 free)) (some (.frz (.bool hv))) (dS (mD c0 m X0)) (dS y) (dS w) none none) = some (.next (hS x0 (some (rowT l)) (iS m) (iS (fr1 free)) (some (.frz (.bool hv))) (dS (mD c m X)) (dS y) (dS w) none none)) := by
  have hm' := le1000 hm
  cases free with
  | false => exact ⟨c0, X0, Nat.le_of_lt hc, fun j _ => hX j, fun h => (Bool.noConfusion h), fun n => run_ss [none]⟩
  | true =>
    have hq : catT [vD m one1] (rg c0 fun j => vD m (X0 j)) = some (.olist ((vD m one1 :: rg c0 fun j => vD m (X0 j)).map .frz)) := cat_ok (by rw [rg_length]; exact Nat.le_trans (Nat.add_le_add_left (Nat.le_of_lt hc) 1) (by decide))
    have hz : (T.olist ((vD m one1 :: rg c0 fun j => vD m (X0 j)).map .frz)).freeze = mD (c0 + 1) m fun j => if j = 0 then one1 else X0 (j - 1) := (freeze_l _).trans (cons_mD c0 m X0)
    exact ⟨c0 + 1, fun j => if j = 0 then one1 else X0 (j - 1), hc, fun j _ => by
      show HV m 3 (if j = 0 then one1 else X0 (j - 1))
      split
      · exact fun k _ => H_one.up rfl
      · exact hX _, fun _ => ⟨Nat.succ_pos _, fun k _ => rfl⟩, fun n => run_ss [none, none, rpF (rD 1) hm', zoF m fun k => rD (one1 k), none, tF hq, zF hz]⟩
end
theorem law_run {s : List Int} (hs : s.length ≤ 63) : Rets 14 .f_law [.frz (.src (s.map .int))] (.frz (.bool true)) := by
  refine rets_x (σ := hS (dS (.src (s.map .int))) none none none none none none none none none) rfl rfl fun n hn => ?_
  have hl0 := figR_len s
  have hr := figures_ok hs
  generalize figR s = l0 at hl0 hr
  have ha : nx l0 4 < 4 := nx_lt l0 (by decide)
  have hl1 := dr_len hl0 1
  generalize hR1 : dr 1 l0 = l1 at hl1
  generalize hn0 : nx l0 4 = a at ha
  obtain ⟨free, hfr⟩ : ∃ free : Bool, nx l1 2 = fr1 free := by
    have h : nx l1 2 < 2 := nx_lt l1 (by decide)
    rcases Nat.lt_succ_iff_lt_or_eq.1 h with h | h
    · exact ⟨false, Nat.lt_one_iff.1 h⟩
    · exact ⟨true, h⟩
  have hl2 := dr_len hl1 1
  generalize hR2 : dr 1 l1 = l2 at hl2
  have hl3 := dr_len hl2 1
  generalize hR3 : dr 1 l2 = l3 at hl3
  obtain ⟨hv, hhv⟩ : ∃ hv : Bool, decide ((nx l2 3 : Int) = 2) = hv := ⟨_, rfl⟩
  refine seqV 4 (σ' := hS (dS (.src (s.map .int))) (some (rowT l3)) (iS (2 + a)) (iS (fr1 free)) (some (.frz (.bool hv))) none none none none none) (run_ss [cF hn hr rfl, qF (nxt (lim := 4) (Nat.le_trans (by decide) hn) hl0 (by decide) hn0 hR1), qF (nxt (lim := 2) (Nat.le_trans (by decide) hn) hl1 (by decide) hfr hR2), qF (nxt (v := nx l2 3) (lim := 3) (Nat.le_trans (by decide) hn) hl2 (by decide) rfl hR3), tF (p_eq hhv)]) ?_
  have hm0 : 0 < 2 + a := Nat.lt_of_lt_of_le (by decide) (Nat.le_add_right 2 a)
  have hm : 2 + a ≤ 5 := Nat.add_le_add_left (Nat.le_of_lt_succ ha) 2
  generalize 2 + a = m at hm0 hm
  have hm' := le1000 hm
  have hcol := fun n (hn : 3 ≤ n) => columns_ok hn hl3 hm
  have hc0 : nx l3 4 < 4 := nx_lt l3 (by decide)
  have hX0 := cX_H m (dr 1 l3)
  have hl4 := cR_len (m := m) (dr_len hl3 1) (nx l3 4)
  generalize cX m (dr 1 l3) = X0 at hcol hX0
  generalize cR m (dr 1 l3) (nx l3 4) = l4 at hcol hl4
  generalize nx l3 4 = c0 at hcol hc0
  have hy := vals_H m l4
  have hl5 := dr_len hl4 m
  obtain ⟨l6, w, hl6, hw, h1, hp, hwe⟩ := weights_ok (f0 := .int (fr1 free)) (co := mD c0 m X0) (y0 := vD m (vals l4)) (x0 := dS (.src (s.map .int))) hv hm hl5
  obtain ⟨c, X, hc, hX, hf, h7⟩ := ones_ok (hv := hv) (l := l6) (y := vD m (vals l4)) (w := vD m w) (x0 := dS (.src (s.map .int))) free hc0 hm hX0
  have htail := law_mid (free := free) (x0 := dS (.src (s.map .int))) hm0 hm hc hX hw (HV.up hy rfl) h1 hp hf hl6 hn
  exact seqV 3 (σ' := hS (dS (.src (s.map .int))) (some (rowT l6)) (iS m) (iS (fr1 free)) (some (.frz (.bool hv))) (dS (mD c0 m X0)) (dS (vD m (vals l4))) (dS (vD m w)) none none) (run_ss [qF (hcol n (Nat.le_trans (by decide) hn)),
    qF (comp_st (cf := callN n) (cn := newN n) (.comp 20 (.range [(.pu (.var 2))]) none (.callr .f_law_value 1 [])) (n := m) (g := fun k => .int k) (fun k => rD (vals l4 k)) (fun k => hS (dS (.src (s.map .int))) (some (rowT (dr k l4))) (iS m) (iS (fr1 free)) (some (.frz (.bool hv))) (dS (mD c0 m X0)) none none none none) hm' [rgF hm'] fun k hk => [vlF hn (dr_len hl4 k)]), zoF m fun k => rD (vals l4 k),
    qF (hwe n hn), zoF m fun k => rD (w k)]) (seqV 1 (h7 n) htail)
theorem law_val {s : List Int} (hs : s.length ≤ 63) : ∃ σ, callN 14 .f_law [.frz (.src (s.map .int))] = some (.frz (.bool true), σ) := by
  have h := law_run hs 14 (Nat.le_refl _)
  generalize callN 14 .f_law [.frz (.src (s.map .int))] = q at h
  cases q with
  | none => cases h
  | some q => exact ⟨q.2, congrArg some (Prod.ext (Option.some.inj h) rfl)⟩
end MineP.Internal
end
section
open PySem PySem.W PyProof.Rows
set_option maxRecDepth 100000
namespace Mine.Internal
noncomputable def fAd : Fn → Addr
  | .f_get_attr => 28
  | .f_names_of => 33
  | .f_dim_of => 40
  | .f_gcd => 86
  | .f_make => 93
  | .f_is_na => 100
  | .f_is_finite => 107
  | .f_marked => 114
  | .f_neg => 121
  | .f_add => 128
  | .f_sub => 135
  | .f_mul => 142
  | .f_div => 149
  | .f_weighted => 177
  | .f_dot => 184
  | .f_less_multiple => 189
  | .f_check_finite => 196
  | .f_check_weights => 203
  | .f_orthogonal => 210
  | .f_back_coefficients => 217
  | .f_used_rows => 222
  | .f_fit => 228
  | .f_rss => 235
  | .f_inverse_shares => 242
  | .f_unscaled_covariance => 249
  | .f_variance => 256
  | .f_covariance => 261
  | .f_f_value => 268
  | .iNull => 282
  | .iVector => 304
  | .f_null => 325
  | .f_integer => 332
  | .f_double => 339
  | .f_character => 346
  | .f_named => 353
  | .f_list_of => 359
  | .f_length => 366
  | .f_share => 373
  | .f_row_count => 380
  | .f_frame_of => 385
  | .f_frame_row_names => 390
  | .f_factor_levels => 395
  | .f_matrix_value => 400
  | .f_named_doubles => 407
  | .f_part => 414
  | .iDesign => 428
  | .f_fit_design => 440
  | .f_used_levels => 445
  | .f_releveled => 457
  | .f_spread_rows => 464
  | .f_vcov_matrix => 471
  | .f_weight_at => 478
  | .f_model_square => 485
  | .f_coefficient_matrix => 490
  | .f_summary_parts => 495
  | .iTerms => 509
  | .f_law_figures => 523
  | .f_law_next => 530
  | .f_law_low => 537
  | .f_law_add => 544
  | .f_law_mul => 551
  | .f_law_by => 558
  | .f_law_minus => 565
  | .f_law_dot => 572
  | .f_law_value => 579
  | .f_law_columns => 584
  | .f_law_square => 589
  | .f_law_releveled => 596
  | .f_law_factors => 601
  | .f_law_covariance => 606
  | .f_law => 611
noncomputable def cAd : Cls → Addr
  | .null => 285
  | .vector => 314
  | .fit => 168
  | .design => 431
  | .terms => 512
noncomputable def inf (f : Fn) : Info := (info f).getD ⟨0, [], [], []⟩
noncomputable def aF : List Fn := [.f_null, .f_names_of, .f_dim_of, .f_is_na, .f_is_finite, .f_neg, .f_back_coefficients, .f_rss, .f_inverse_shares, .f_unscaled_covariance, .f_variance, .f_covariance, .iNull, .f_integer, .f_double, .f_character, .f_length, .f_share, .f_row_count, .f_frame_row_names, .f_factor_levels, .f_fit_design, .f_used_levels, .f_law_figures, .f_law_value, .f_law_factors, .f_law, .f_list_of, .f_get_attr, .f_gcd, .f_make, .f_marked, .f_add, .f_sub, .f_mul, .f_div, .f_weighted, .f_dot, .f_check_finite, .f_check_weights, .f_orthogonal, .f_used_rows, .f_named, .f_named_doubles, .f_part, .f_vcov_matrix, .f_weight_at, .f_model_square, .f_coefficient_matrix, .f_law_next, .f_law_low, .f_law_add, .f_law_mul, .f_law_by, .f_law_minus, .f_law_columns, .f_fit, .f_less_multiple, .f_frame_of, .f_matrix_value, .iDesign, .f_releveled, .f_spread_rows, .f_summary_parts, .f_law_dot, .f_law_square, .iVector, .f_f_value, .f_law_covariance, .iTerms]
noncomputable def dF : List Fn := [.f_list_of, .f_fit, .iVector]
abbrev Bl := List (Option (List (Str × Value)))
noncomputable def bO (K : Frag) (S : Setting) (a b c d e g : Value) : Bl × Bl × Bl :=
  (aF.map fun f => bindAt K (fAd f) S ([a, b, c, d, e, g].take (inf f).nargs),
   dF.map fun f => bindAt K (fAd f) S ([a, b, c, d, e, g].take ((inf f).nargs - 1)),
   [bindAt K 165 S [a, b, c, d, e], bindAt K 72 S [a, b], bindAt K 596 S [a, b]])
noncomputable def bR (a b c d e g : Value) : Bl × Bl × Bl :=
  (aF.map fun f => some ((psOf (inf f)).zip ([a, b, c, d, e, g].take (inf f).nargs)),
   dF.map fun f => some ((psOf (inf f)).zip ([a, b, c, d, e, g].take ((inf f).nargs - 1) ++ [.none])),
   [some (fitPs.zip [a, b, c, d, e]), some (refPs.zip [a, b]), some (relPs.zip [a, b])])
noncomputable def dB (f : Fn) : Bool := match (inf f).dflt with
  | [] => true
  | _ :: _ => dF.contains f
noncomputable def dN (f : Fn) : Bool := match (inf f).dflt with
  | [] => false
  | d :: l => match l with
    | [] => match d.none? with
      | some _ => decide ((inf f).nargs ≠ 0)
      | none => false
    | _ :: _ => false
noncomputable def cls5 : List Cls := [.null, .vector, .fit, .design, .terms]
noncomputable def iniA : Cls → Addr
  | .null => 282
  | .vector => 304
  | .fit => 165
  | .design => 428
  | .terms => 509
noncomputable abbrev clsB (K : Frag) (c : Cls) : Bool :=
  attrNames.all (fun n => AttrOK K (cAd c) (Str.ofString n)) && (AttrOK K (cAd c) "shared" && (makesIn K (cAd c) && (nsIn K mainGlobals (Str.ofString (clsName c)) == some (some (.ref (cAd c))) && (keepIn K (.ref (cAd c)) &&
  (plainGet K (cAd c) "__class__" && (hasDictIn K (cAd c) && (findIn K (.ref (cAd c)) "__class__" == some (some (.builtin "object.__class__")) && (mroIn K (cAd c) (.type "object") == some true && (kin_notT K (cAd c) "str" &&
  (findIn K (.ref (cAd c)) "__init__" == some (some (.ref (iniA c))) && (typeIn K (.ref (iniA c)) == some (.type "function") && cls5.all fun d => isIn K (.ref (cAd c)) (cAd d) == decide (c = d) && (decide (c = d) || kin_not K (cAd c) (cAd d)))))))))))))
noncomputable def glF : List Fn := [.f_get_attr, .f_names_of, .f_dim_of, .f_gcd, .f_make, .f_is_na, .f_is_finite, .f_marked, .f_neg, .f_add, .f_sub, .f_mul, .f_div, .f_weighted, .f_dot, .f_less_multiple, .f_check_finite, .f_check_weights, .f_orthogonal, .f_back_coefficients, .f_used_rows, .f_fit, .f_rss, .f_inverse_shares, .f_unscaled_covariance, .f_variance, .f_covariance, .f_f_value, .f_null, .f_integer, .f_double, .f_character, .f_named, .f_list_of, .f_length, .f_share, .f_row_count, .f_frame_of, .f_frame_row_names, .f_factor_levels, .f_matrix_value, .f_named_doubles, .f_part, .f_fit_design, .f_used_levels, .f_releveled, .f_spread_rows, .f_vcov_matrix, .f_weight_at, .f_model_square, .f_coefficient_matrix, .f_summary_parts, .f_law_figures, .f_law_next, .f_law_low, .f_law_add, .f_law_mul, .f_law_by, .f_law_minus, .f_law_dot, .f_law_value, .f_law_columns, .f_law_square, .f_law_releveled, .f_law_factors, .f_law_covariance, .f_law]
noncomputable def tupB (K : Frag) (a : Addr) (x y : Int) : Bool := match K.lookup a with
  | some o => o.cls == .type "tuple" && match o.data with
    | .seq vs _ => match vs.toList with
      | [.int b _, .int c _] => b == x && c == y
      | _ => false
    | _ => false
  | none => false
noncomputable def strKeysB (es : Array DictEntry) : Bool := es.toList.all fun e => match e.key with
  | .str _ _ => true
  | _ => false
noncomputable def nsB (K : Frag) (a : Addr) (r : Option Value) : Bool := match K.lookup a with
  | some o => match o.data with
    | .dict es _ => strKeysB es && nsFind es "__init__" == r
    | _ => false
  | none => false
theorem nsB_of {K : Frag} {h : Heap} {a : Addr} {r : Option Value} (e : nsB K a r = true) (KX : K.In h) : ∃ m, h.Ns a m ∧ m "__init__" = r := by
  unfold nsB at e
  split at e
  · rename_i o ho
    split at e
    · rename_i es ep hd
      simp only [Bool.and_eq_true, beq_iff_eq] at e
      refine ⟨fun n => nsFind es n, ⟨o, es, ep, KX _ _ ho, hd, ?_, fun _ => rfl⟩, e.2⟩
      intro x hx
      have := List.all_eq_true.mp e.1 x (Array.mem_toList_iff.mpr hx)
      split at this
      · rename_i n t hk; exact ⟨n, t, hk⟩
      · cases this
    · cases e
  · cases e
noncomputable def fnC (K : Frag) (a : Addr) (I : Info) (ps : List Str) (chk : Sc → List Stmt → Bool) : Bool := match fdAt K a with
  | some fd => recB K fd && scB fd.scope I ps && chk (scOf fd.scope I) (bodyOf fd)
  | none => false
theorem rec_sc {cx : Cx} {a : Addr} {I : Info} {ps : List Str} {chk : Sc → List Stmt → Bool} (KX : cx.K.In cx.base) (h : fnC cx.K a I ps chk = true) (hp : ps.length = I.nargs) (hb : BindOK cx a I.nargs I.dflt ps) :
    ∃ body scope, FnRec cx a I.nargs I.dflt body scope ps ∧ ScOK scope (scOf scope I) I.names.length ps ∧ chk (scOf scope I) body = true := by
  unfold fnC at h
  split at h
  · rename_i fd hfd
    simp only [Bool.and_eq_true] at h
    obtain ⟨⟨h1, h2⟩, h3⟩ := h
    exact ⟨bodyOf fd, fd.scope, rec_of KX hfd h1 hp hb, (scB_ok h2).1, h3⟩
  · cases h
noncomputable def cd55 : ClassData := { name := Str.ofString "CoveError", bases := [.type "Exception"], mro := [.ref 55, .type "Exception", .type "BaseException", .type "object"], ns := 54, qualname := Str.ofString "CoveError", subclasses := [.ref 75] }
noncomputable def o75 : Option Obj := some (excClassObj (Str.ofString "Refusal") (Str.ofString "Refusal") 75 74 [.ref 55] (.ref 55 :: bmB) true [] [] false none none (some (.ref 59)) none (some (.str (Str.ofString "Refusal") 246)) (some (.str (Str.ofString "Refusal") 254)) (some (.bool true)) "Exception.__new__")
noncomputable def o55 : Option Obj := some { cls := .type "type", dict := none, data := .cls cd55, slots := #[some (.ref 46), none, some (.str (Str.ofString "CoveError") 226), some (.str (Str.ofString "CoveError") 234), some (.builtin "Exception.__new__"), some (.bool true)] }
noncomputable def fnC0 (K : Frag) (f : Fn) : Bool := fnB K (fAd f) (zOf f) (inf f)
noncomputable def fB (K : Frag) : List Bool :=
  [aF.all (fnC0 K),
   cls5.all (clsB K),
   specialIn K (.builtin "object.__class__") "__get__" == some (some (.builtin "getset_descriptor.__get__")),
   takesIn K (.builtin "object.__class__") == some true,
   biNames.all fun x => nsIn K mainGlobals (Str.ofString x) == some none,
   glF.all fun f => nsIn K mainGlobals (Str.ofString (fnName f)) == some (some (.ref (fAd f))) && keepIn K (.ref (fAd f)),
   nsIn K mainGlobals (Str.ofString "NAN") == some (some (.ref 78)),
   tupB K 78 0 0,
   nsIn K mainGlobals (Str.ofString "ZERO_rational") == some (some (.ref 79)),
   tupB K 79 0 1,
   nsIn K mainGlobals (Str.ofString "ZERO_lsfit") == some (some (.ref 150)),
   tupB K 150 0 1,
   nsIn K mainGlobals (Str.ofString "ONE") == some (some (.ref 151)),
   tupB K 151 1 1,
   fnC K 165 n_iFit fitPs chkFit,
   fnC K 72 n_iRef refPs chkRef,
   fnC K 596 n_rel relPs chkRel,
   nsB K 74 (some (.ref 72)),
   nsB K 54 none,
   ((clsIn K 75).map fun cd => (cd.hasDict, cd.mro)) == some (true, .ref 75 :: .ref 55 :: bmB),
   findIn K (.ref 75) "__setattr__" == some (some (.builtin "object.__setattr__")),
   takerIn K 75 "message" == some none,
   findIn K (.ref 75) "message" == some none,
   findIn K (.ref 75) "__getattribute__" == some (some (.builtin "BaseException.__getattribute__")),
   findIn K (.ref 75) "__getattr__" == some none,
   typeIn K (.ref 72) == some (.type "function"),
   nsIn K mainGlobals ("Refusal" : Str) == some (some (.ref 75)),
   keepIn K (.ref 75)]
abbrev ObK := List Bool × Option Obj × Option Obj × (Setting → Value → Value → Value → Value → Value → Value → Bl × Bl × Bl)
noncomputable def obsK (K : Frag) : ObK := (fB K, K.lookup 75, K.lookup 55, bO K)
noncomputable def obsR : ObK := ([true, true, true, true, true, true, true, true, true, true, true, true, true, true, true, true, true, true, true, true, true, true, true, true, true, true, true, true], o75, o55, fun _ => bR)
structure KF (K : Frag) : Prop where
  fn : (aF.all (fnC0 K)) = true
  cls : (cls5.all (clsB K)) = true
  spec : (specialIn K (.builtin "object.__class__") "__get__" == some (some (.builtin "getset_descriptor.__get__"))) = true
  takes : (takesIn K (.builtin "object.__class__") == some true) = true
  bi : (biNames.all fun x => nsIn K mainGlobals (Str.ofString x) == some none) = true
  gl : (glF.all fun f => nsIn K mainGlobals (Str.ofString (fnName f)) == some (some (.ref (fAd f))) && keepIn K (.ref (fAd f))) = true
  t1 : (nsIn K mainGlobals (Str.ofString "NAN") == some (some (.ref 78))) = true
  u1 : (tupB K 78 0 0) = true
  t2 : (nsIn K mainGlobals (Str.ofString "ZERO_rational") == some (some (.ref 79))) = true
  u2 : (tupB K 79 0 1) = true
  t3 : (nsIn K mainGlobals (Str.ofString "ZERO_lsfit") == some (some (.ref 150))) = true
  u3 : (tupB K 150 0 1) = true
  t4 : (nsIn K mainGlobals (Str.ofString "ONE") == some (some (.ref 151))) = true
  u4 : (tupB K 151 1 1) = true
  fit : (fnC K 165 n_iFit fitPs chkFit) = true
  ref : (fnC K 72 n_iRef refPs chkRef) = true
  rel : (fnC K 596 n_rel relPs chkRel) = true
  n74 : (nsB K 74 (some (.ref 72))) = true
  n54 : (nsB K 54 none) = true
  cd : (((clsIn K 75).map fun cd => (cd.hasDict, cd.mro)) == some (true, .ref 75 :: .ref 55 :: bmB)) = true
  set : (findIn K (.ref 75) "__setattr__" == some (some (.builtin "object.__setattr__"))) = true
  taker : (takerIn K 75 "message" == some none) = true
  msg : (findIn K (.ref 75) "message" == some none) = true
  geta : (findIn K (.ref 75) "__getattribute__" == some (some (.builtin "BaseException.__getattribute__"))) = true
  get : (findIn K (.ref 75) "__getattr__" == some none) = true
  init : (typeIn K (.ref 72) == some (.type "function")) = true
  name : (nsIn K mainGlobals ("Refusal" : Str) == some (some (.ref 75))) = true
  keep : (keepIn K (.ref 75)) = true
  l75 : K.lookup 75 = o75
  l55 : K.lookup 55 = o55
  b1 : ∀ S a b c d e g, aF.map (fun f => bindAt K (fAd f) S ([a, b, c, d, e, g].take (inf f).nargs)) = aF.map fun f => some ((psOf (inf f)).zip ([a, b, c, d, e, g].take (inf f).nargs))
  b2 : ∀ S a b c d e g, dF.map (fun f => bindAt K (fAd f) S ([a, b, c, d, e, g].take ((inf f).nargs - 1))) = dF.map fun f => some ((psOf (inf f)).zip ([a, b, c, d, e, g].take ((inf f).nargs - 1) ++ [.none]))
  b3 : ∀ S a b c d e, [bindAt K 165 S [a, b, c, d, e], bindAt K 72 S [a, b], bindAt K 596 S [a, b]] = [some (fitPs.zip [a, b, c, d, e]), some (refPs.zip [a, b]), some (relPs.zip [a, b])]
theorem kf_of {K : Frag} (h : obsK K = obsR) : KF K := by
  have hb : fB K = _ := congrArg Prod.fst h
  have at_ : ∀ i : Nat, (fB K).getD i true = obsR.1.getD i true := fun i => congrArg (fun l : List Bool => l.getD i true) hb
  have bd : ∀ S a b c d e g, bO K S a b c d e g = bR a b c d e g := fun S a b c d e g => congrFun (congrFun (congrFun (congrFun (congrFun (congrFun (congrFun (congrArg (fun x => x.2.2.2) h) S) a) b) c) d) e) g
  exact ⟨at_ 0, at_ 1, at_ 2, at_ 3, at_ 4, at_ 5, at_ 6, at_ 7, at_ 8, at_ 9, at_ 10, at_ 11, at_ 12, at_ 13, at_ 14, at_ 15, at_ 16, at_ 17, at_ 18, at_ 19, at_ 20, at_ 21, at_ 22, at_ 23, at_ 24, at_ 25, at_ 26, at_ 27, congrArg (fun x => x.2.1) h, congrArg (fun x => x.2.2.1) h, fun S a b c d e g => congrArg Prod.fst (bd S a b c d e g), fun S a b c d e g => congrArg (fun x => x.2.1) (bd S a b c d e g), fun S a b c d e => congrArg (fun x => x.2.2) (bd S a b c d e .none)⟩
theorem mapAt {fs : List Fn} {u v : Fn → Option (List (Str × Value))} (h : fs.map u = fs.map v) {f : Fn} (m : fs.contains f = true) : u f = v f := List.map_inj_left.mp h f (List.contains_iff_mem.mp m)
theorem gD {vs : List Value} {i : Nat} (h : i < vs.length) : vs.getD i .none = vs[i] := by
  rw [List.getD_eq_getElem?_getD, List.getElem?_eq_getElem h]; rfl
theorem take6 {vs : List Value} {n : Nat} (h : vs.length = n) (hn : n ≤ 6) : [vs.getD 0 .none, vs.getD 1 .none, vs.getD 2 .none, vs.getD 3 .none, vs.getD 4 .none, vs.getD 5 .none].take n = vs := by
  apply List.ext_getElem
  · rw [List.length_take, h]; exact Nat.min_eq_left hn
  · intro i h1 h2
    rw [List.getElem_take]
    match i, h2 with
    | 0, h2 => exact gD h2
    | 1, h2 => exact gD h2
    | 2, h2 => exact gD h2
    | 3, h2 => exact gD h2
    | 4, h2 => exact gD h2
    | 5, h2 => exact gD h2
    | i + 6, h2 => exact absurd (Nat.lt_of_lt_of_le (h ▸ h2) hn) (Nat.not_lt.mpr (Nat.le_add_left 6 i))
theorem in_aF (f : Fn) : ((info f).isNone || aF.contains f) = true := by cases f <;> rfl
theorem in_dF : aF.all (fun f => dB f && decide ((inf f).nargs ≤ 6)) = true := by decide +kernel
theorem in_dN : dF.all dN = true := by decide +kernel
section
variable {cx : Cx}
theorem fits_fit (F : KF cx.K) (hf : cx.fA = fAd) (KX : cx.K.In cx.base) : ∀ f I, info f = some I → FnFit cx (cx.fA f) (zOf f) I := by
  intro f I h
  rw [hf]
  have hm : aF.contains f = true := by
    have := in_aF f
    rwa [h] at this
  have hI : inf f = I := by unfold inf; rw [h]; rfl
  have hm' := List.contains_iff_mem.mp hm
  have hd := List.all_eq_true.mp in_dF f hm'
  rw [Bool.and_eq_true, decide_eq_true_eq] at hd
  refine fn_fit KX (by rw [← hI]; exact List.all_eq_true.mp F.fn f hm') ?_
  have b1 : ∀ vs : List Value, vs.length = (inf f).nargs → ∀ S, bindAt cx.K (fAd f) S vs = some ((psOf (inf f)).zip vs) := fun vs h S => by
    have := mapAt (F.b1 S (vs.getD 0 .none) (vs.getD 1 .none) (vs.getD 2 .none) (vs.getD 3 .none) (vs.getD 4 .none) (vs.getD 5 .none)) hm
    rwa [take6 h hd.2] at this
  rw [← hI]
  have hdB := hd.1
  unfold dB at hdB
  cases e : (inf f).dflt with
  | nil => exact bindn_all b1
  | cons d l =>
    rw [e] at hdB
    have hn := List.all_eq_true.mp in_dN f (List.contains_iff_mem.mp hdB)
    unfold dN at hn
    rw [e] at hn
    cases l with
    | cons _ _ => cases hn
    | nil =>
      cases d with
      | none =>
        obtain ⟨k, hk⟩ := Nat.exists_eq_succ_of_ne_zero (of_decide_eq_true hn)
        have b2 : ∀ vs : List Value, vs.length = k → ∀ S, bindAt cx.K (fAd f) S vs = some ((psOf (inf f)).zip (vs ++ [.none])) := fun vs h S => by
          have := mapAt (F.b2 S (vs.getD 0 .none) (vs.getD 1 .none) (vs.getD 2 .none) (vs.getD 3 .none) (vs.getD 4 .none) (vs.getD 5 .none)) hdB
          rwa [take6 (by rw [h, hk]; rfl) (Nat.le_trans (Nat.sub_le _ _) hd.2)] at this
        rw [hk]
        rw [hk] at b1
        exact bindn_dflt b1 b2
      | _ => cases hn
end
end Mine.Internal
end
section
open PySem PySem.W PyProof.Rows
set_option maxRecDepth 100000
namespace Mine.Internal
theorem mem5 (c : Cls) : cls5.contains c = true := by cases c <;> rfl
structure ClsF (K : Frag) (c : Cls) : Prop where
  attr : ∀ n, n ∈ attrNames → AttrOK K (cAd c) (Str.ofString n) = true
  shared : AttrOK K (cAd c) "shared" = true
  make : makesIn K (cAd c) = true
  name : nsIn K mainGlobals (Str.ofString (clsName c)) = some (some (.ref (cAd c)))
  keep : keepIn K (.ref (cAd c)) = true
  get : plainGet K (cAd c) "__class__" = true
  dict : hasDictIn K (cAd c) = true
  find : findIn K (.ref (cAd c)) "__class__" = some (some (.builtin "object.__class__"))
  mro : mroIn K (cAd c) (.type "object") = some true
  str : kin_notT K (cAd c) "str" = true
  ini : findIn K (.ref (cAd c)) "__init__" = some (some (.ref (iniA c)))
  fn : typeIn K (.ref (iniA c)) = some (.type "function")
  isi : ∀ d, isIn K (.ref (cAd c)) (cAd d) = decide (c = d)
  no : ∀ d, c ≠ d → kin_not K (cAd c) (cAd d) = true
theorem clsF {K : Frag} (F : KF K) (c : Cls) : ClsF K c := by
  have h := List.all_eq_true.mp F.cls c (List.contains_iff_mem.mp (mem5 c))
  unfold clsB at h
  simp only [Bool.and_eq_true, beq_iff_eq] at h
  obtain ⟨h1, h2, h3, h4, h5, h6, h7, h8, h9, h10, h11, h12, h13⟩ := h
  have h14 := fun d => List.all_eq_true.mp h13 d (List.contains_iff_mem.mp (mem5 d))
  simp only [Bool.and_eq_true, Bool.or_eq_true, beq_iff_eq, decide_eq_true_eq] at h14
  exact ⟨List.all_eq_true.mp h1, h2, h3, h4, h5, h6, h7, h8, h9, h10, h11, h12, fun d => (h14 d).1, fun d hd => (h14 d).2.resolve_left hd⟩
theorem glF_in (f : Fn) : (!fnGlob f || glF.contains f) = true := by cases f <;> rfl
theorem glF_at {K : Frag} (F : KF K) (f : Fn) (h : fnGlob f = true) : nsIn K mainGlobals (Str.ofString (fnName f)) = some (some (.ref (fAd f))) ∧ keepIn K (.ref (fAd f)) = true := by
  have hm := glF_in f
  rw [h] at hm
  have := List.all_eq_true.mp F.gl f (List.contains_iff_mem.mp hm)
  rwa [Bool.and_eq_true, beq_iff_eq] at this
section
variable {cx : Cx}
theorem cls_ok (F : KF cx.K) (hC : cx.cA = cAd) : ClsOK cx := ⟨fun c n hn => by rw [hC]; exact (clsF F c).attr n hn, fun c => by rw [hC]; exact (clsF F c).shared⟩
theorem tup_rep (KX : cx.K.In cx.base) (a : Addr) (x y : Int) (h : tupB cx.K a x y = true) (kp : KP) (hkp : ∀ a o, cx.base.get? a = some o → kp a = some o) : Rep cx kp (.ref a) (.tup [.int x, .int y]) := by
  unfold tupB at h
  split at h
  · rename_i ob ho
    simp only [Bool.and_eq_true, beq_iff_eq] at h
    obtain ⟨h1, h2⟩ := h
    split at h2
    · rename_i vs m hd'
      split at h2
      · rename_i b t c t' hv
        simp only [Bool.and_eq_true, beq_iff_eq] at h2
        obtain ⟨rfl, rfl⟩ := h2
        refine ⟨a, ob, vs, m, rfl, hkp _ _ (KX _ _ ho), h1, hd', ?_⟩
        rw [hv]
        exact ⟨_, _, rfl, ⟨t, rfl⟩, _, _, rfl, ⟨t', rfl⟩, rfl⟩
      · cases h2
    · cases h2
  · cases h
theorem nam_ok (F : KF cx.K) (hC : cx.cA = cAd) (KX : cx.K.In cx.base) : NamesOK cx := by
  refine ⟨fun x hx => beq_iff_eq.mp (List.all_eq_true.mp F.bi x hx), fun c => ?_, fun c d => ?_, fun q hq => ?_⟩
  · rw [hC]; exact (clsF F c).name
  · rw [hC]; exact (clsF F c).isi d
  · simp only [globT, List.mem_cons, List.not_mem_nil, or_false] at hq
    rcases hq with rfl | rfl | rfl | rfl
    · exact ⟨_, beq_iff_eq.mp F.t1, tup_rep KX _ _ _ F.u1⟩
    · exact ⟨_, beq_iff_eq.mp F.t2, tup_rep KX _ _ _ F.u2⟩
    · exact ⟨_, beq_iff_eq.mp F.t3, tup_rep KX _ _ _ F.u3⟩
    · exact ⟨_, beq_iff_eq.mp F.t4, tup_rep KX _ _ _ F.u4⟩
theorem fns_ok (F : KF cx.K) (hC : cx.cA = cAd) (hF : cx.fA = fAd) : FnsOK cx :=
  ⟨fun f hf => by rw [hF]; exact (glF_at F f hf).1, fun f hf => by rw [hF]; exact (glF_at F f hf).2, fun c => by rw [hC]; exact (clsF F c).keep⟩
theorem fits_ok (F : KF cx.K) (hC : cx.cA = cAd) (hF : cx.fA = fAd) (KX : cx.K.In cx.base) : Fits cx := by
  refine ⟨fits_fit F hF KX, fun c => ?_, fun c f I h => ?_, (cls_ok F hC).shared⟩
  · rw [hC]; exact (clsF F c).make
  · rw [hC, hF]
    cases c with
    | fit => cases h
    | null => cases h; exact ⟨(clsF F .null).ini, (clsF F .null).fn⟩
    | vector => cases h; exact ⟨(clsF F .vector).ini, (clsF F .vector).fn⟩
    | design => cases h; exact ⟨(clsF F .design).ini, (clsF F .design).fn⟩
    | terms => cases h; exact ⟨(clsF F .terms).ini, (clsF F .terms).fn⟩
theorem inst_at {kp : KP} {l : Lg} {s : Shared} {v : Value} {c : Cls} {fs : List (String × D)} (L : Led cx kp l s.heap) (h : Rep cx kp v (.inst c fs)) : ∃ a d od, v = .ref a ∧ InstAt s.heap a (instObj (cx.cA c) d) (cx.cA c) (some od) := by
  obtain ⟨a', dd, od, m, j, rfl, k1, k2, _, ns, rf⟩ := h
  obtain ⟨o', m', g1, g2, g3⟩ := L.keptNs k2 ns
  exact ⟨a', dd, o', rfl, L.keptInst k1, rfl, rfl, g1⟩
theorem isn_ok (F : KF cx.K) (hC : cx.cA = cAd) (KX : cx.K.In cx.base) (kp : KP) (A : Around) (Er : Value → Shared → Prop) (s : Shared) (l : Lg) (L : Led cx kp l s.heap) (v : Value) (c d : Cls) (fs : List (String × D)) (hne : c ≠ d) (h : Rep cx kp v (.inst c fs))
    (Q : Value → Shared → Prop) (q : After cx kp s (.frz (.bool false)) Q) : wpAny (model cx.prog cx.w) A (call (.builtin "isinstance") [v, .ref (cx.cA d)]) Q Er s := by
  obtain ⟨a, dd, od, rfl, I⟩ := inst_at L h
  have X := KX.keeps L.sub
  have fin := q (.bool false) s.heap (s.toks + 1) Gr.refl View.ofBool
  rw [hC] at I ⊢
  have C := clsF F c
  exact kin_callC X I (C.no d hne) C.get C.dict C.find (beq_iff_eq.mp F.spec) (beq_iff_eq.mp F.takes) C.mro fin
theorem iss_ok (F : KF cx.K) (hC : cx.cA = cAd) (KX : cx.K.In cx.base) (kp : KP) (A : Around) (Er : Value → Shared → Prop) (s : Shared) (l : Lg) (L : Led cx kp l s.heap) (v : Value) (c : Cls) (fs : List (String × D)) (h : Rep cx kp v (.inst c fs))
    (Q : Value → Shared → Prop) (q : After cx kp s (.frz (.bool false)) Q) : wpAny (model cx.prog cx.w) A (call (.builtin "isinstance") [v, .type "str"]) Q Er s := by
  obtain ⟨a, dd, od, rfl, I⟩ := inst_at L h
  have X := KX.keeps L.sub
  have fin := q (.bool false) s.heap (s.toks + 1) Gr.refl View.ofBool
  rw [hC] at I
  have C := clsF F c
  exact kin_callT X I C.str (by kernel_rfl) C.get C.dict C.find (beq_iff_eq.mp F.spec) (beq_iff_eq.mp F.takes) C.mro fin
theorem all_ok (F : KF cx.K) (hC : cx.cA = cAd) (O : CxOK cx) : All cx :=
  ⟨O, cls_ok F hC, nam_ok F hC O.inK, fun kp k A Er s l _ L v c d fs hne h Q q => isn_ok F hC O.inK kp A Er s l L v c d fs hne h Q q, fun kp k A Er s l _ L v c fs h Q q => iss_ok F hC O.inK kp A Er s l L v c fs h Q q⟩
theorem len5 {vs : List Value} (h : vs.length = 5) : ∃ a b c d e, vs = [a, b, c, d, e] := ⟨_, _, _, _, _, (take6 h (by decide)).symm⟩
theorem len2 {vs : List Value} (h : vs.length = 2) : ∃ a b, vs = [a, b] := ⟨_, _, (take6 h (by decide)).symm⟩
theorem fit_fit (F : KF cx.K) (hC : cx.cA = cAd) (KX : cx.K.In cx.base) : FitFit cx 165 := by
  refine ⟨rec_sc (I := n_iFit) KX F.fit rfl (bindn_all (n := 5) fun vs h S => by
    obtain ⟨a, b, c, d, e, rfl⟩ := len5 h
    exact (List.cons.inj (F.b3 S a b c d e)).1), ?_, fun n hn => (cls_ok F hC).attr .fit n hn⟩
  rw [hC]; exact ⟨(clsF F .fit).ini, (clsF F .fit).fn⟩
theorem rel_fit (F : KF cx.K) (hF : cx.fA = fAd) (KX : cx.K.In cx.base) : RelFit cx := by
  unfold RelFit
  rw [hF]
  exact rec_sc (I := n_rel) (a := 596) KX F.rel rfl (bindn_all (n := 2) fun vs h S => by
    obtain ⟨a, b, rfl⟩ := len2 h
    exact (List.cons.inj (List.cons.inj (List.cons.inj (F.b3 S a b a b a)).2).2).1)
theorem ref_ok (F : KF cx.K) (hE : cx.eA = 75) (KX : cx.K.In cx.base) : RefOK cx 72 := by
  refine ⟨?_, ?_, by rw [hE]; exact beq_iff_eq.mp F.set, by rw [hE]; exact beq_iff_eq.mp F.taker, by rw [hE]; exact beq_iff_eq.mp F.msg, by rw [hE]; exact beq_iff_eq.mp F.geta, by rw [hE]; exact beq_iff_eq.mp F.get, beq_iff_eq.mp F.init, by rw [hE]; exact beq_iff_eq.mp F.name, by rw [hE]; exact F.keep, ?_⟩
  · rw [hE]
    have := beq_iff_eq.mp F.cd
    rw [Option.map_eq_some_iff] at this
    obtain ⟨cd, h1, h2⟩ := this
    exact ⟨cd, 55, h1, congrArg Prod.fst h2, congrArg Prod.snd h2⟩
  · rw [hE]
    obtain ⟨mN, h1, h2⟩ := nsB_of F.n74 KX
    obtain ⟨mA, h3, h4⟩ := nsB_of F.n54 KX
    exact ⟨_, _, 74, _, _, _, _, _, _, _, _, 55, mN, KX _ _ F.l75, h1, h2, OwnTail.own (cd := cd55) (KX _ _ F.l55) h3 h4 .base⟩
  · exact rec_sc (I := n_iRef) (chk := chkRef) KX F.ref rfl (bindn_all (n := 2) fun vs h S => by
      obtain ⟨a, b, rfl⟩ := len2 h
      exact (List.cons.inj (List.cons.inj (F.b3 S a b a b a)).2).1)
theorem calls_ok (F : KF cx.K) (hC : cx.cA = cAd) (hF : cx.fA = fAd) (hE : cx.eA = 75) (O : CxOK cx) : (∀ n, CallOK cx (2 * n + 2) (callN n) ∧ NewOK cx (2 * n + 2) (newN n)) ∧ ∀ k A, Bud (k + 2) A → RaiseOK cx A := by
  have H := all_ok F hC O
  have Fs := fns_ok F hC hF
  have G := fits_ok F hC hF O.inK
  have RO := ref_ok F hE O.inK
  have RF := rel_fit F hF O.inK
  have FF := fit_fit F hC O.inK
  have RS : ∀ k A, Bud (k + 2) A → RaiseOK cx A := fun k A B => raise_ok H RO B
  have FN : ∀ k, FitNew cx (k + 2) := fun k => fit_new H FF (by rw [hC]; exact (clsF F .fit).make) k
  exact ⟨all_sound H Fs G RS FN (rel_call H Fs G RO RS RF), RS⟩
theorem ints_rep {kp : KP} {vs : List Value} {ns : List Int} (h : IntsAre vs ns) : RepL cx kp vs (ns.map D.int) := by
  induction h with
  | nil => rfl
  | cons n t h ih =>
    exact ⟨_, _, rfl, ⟨_, rfl⟩, ih⟩
theorem law_walk (F : KF cx.K) (hC : cx.cA = cAd) (hF : cx.fA = fAd) (hE : cx.eA = 75) (O : CxOK cx) {ns : List Int} (hn : ns.length ≤ 63) {a : Addr} {vs : List Value} {s : Shared} (hs : cx.base = s.heap) (hL : s.heap.IsList a vs.toArray) (hI : IntsAre vs ns)
    {Res : Result → Shared → Prop} (hr : ∀ h' tk', (∀ b o, s.heap.get? b = some o → h'.get? b = some o) → Res (.ok (.ret (.bool true))) { s with heap := h', toks := tk' }) :
    codeAny (model cx.prog cx.w) callerA (.call (.ref 611) ⟨[.ref a], []⟩) Res s := by
  obtain ⟨CS, RS⟩ := calls_ok F hC hF hE O
  obtain ⟨CF, CN⟩ := CS 13
  have H := all_ok F hC O
  have Fs := fns_ok F hC hF
  have G := fits_ok F hC hF O.inK
  obtain ⟨σr, hv⟩ := MineP.Internal.law_val hn
  have hrun : runF n_f_law (callN 13) (newN 13) [.frz (.src (ns.map .int))] = some (.frz (.bool true), σr) := by
    rw [callN.eq_def] at hv
    simp only [show info .f_law = some n_f_law from rfl] at hv
    exact hv
  unfold runF at hrun
  obtain ⟨σ0, e1, hrun⟩ := Option.bind_eq_some_iff.mp hrun
  obtain ⟨r, e2, hrun⟩ := Option.bind_eq_some_iff.mp hrun
  obtain ⟨o, ho, hcl, m, hd⟩ := hL
  let kp : KP := s.heap.get?
  have L : Led cx kp ([] ++ []) s.heap := ⟨fun a o e => ⟨o, e, .inl rfl⟩, by simp, by simp, by simp, fun a o e => by rw [hs] at e; exact e, fun a o e => by rw [hs] at e; exact e⟩
  have K : Stk callerA [] := ⟨[], rfl, by simp⟩
  have w : OwnL cx kp [.ref a] [.frz (.src (ns.map .int))] [] := by
    refine ⟨.ref a, [], [], [], rfl, rfl, ⟨rfl, ?_⟩, rfl, rfl⟩
    exact ⟨a, o, vs.toArray, m, rfl, ho, hcl, hd, ints_rep hI⟩
  have B : BudW (2 * 13 + 2 + 1) callerA := ⟨rfl, by decide, by decide⟩
  have R := G.fit .f_law n_f_law rfl
  rw [hF] at R
  refine fn_sound H Fs B CF CN (fun A B => RS 26 A B) G.shared R L K w e1 e2 ?_ ?_
  · intro t σ' ht v kp' o1 o0 h' tk' sb w1 _ L1
    have : t = .frz (.bool true) := by
      rcases ht with rfl | ⟨rfl, rfl⟩
      · exact (Prod.mk.inj (Option.some.inj hrun)).1
      · exact nomatch (Prod.mk.inj (Option.some.inj hrun)).1
    subst this
    obtain ⟨_, rfl⟩ := w1
    exact hr h' tk' fun b o e => L1.sub b o (by rw [hs]; exact e)
  · intro m hm
    subst hm
    cases hrun
end
end Mine.Internal
end
section
open PySem PySem.W PyProof.Rows
set_option maxRecDepth 1000000
set_option maxHeartbeats 0
namespace Mine.Internal
noncomputable abbrev pg : Program := PySem.Challenge.rw_nz0499_01.row.toRowW.prog
noncomputable def topG (ok : Thread → Bool) (st : SharedT → Thread → Option (SharedT × Thread)) : Nat → SharedT → Thread → Option SharedT
  | 0, _, _ => none
  | n + 1, s, t => match through t with
    | true => some s
    | false => match ok t with
      | false => none
      | true => match st s t with
        | some r => topG ok st n r.1 r.2
        | none => none
theorem topG_of {p : Program} {w : World} {n₀ : Nat} {ann : Option Value} : ∀ {n : Nat} {s s' : SharedT} {t : Thread}, topG (stepOk n₀ ann) (stepT (denote treeTable) p w) n s t = some s' → topRun treeTable p w n₀ ann n s.abs t = some s'.abs
  | 0, _, _, _, h => by cases h
  | n + 1, s, s', t, h => by
    unfold topG at h
    unfold topRun
    cases ht : through t with
    | true => rw [ht] at h; cases h; rfl
    | false =>
      rw [ht] at h
      cases hk : stepOk n₀ ann t with
      | false => rw [hk] at h; cases h
      | true =>
        rw [hk] at h
        cases hs : stepT (denote treeTable) p w s t with
        | none => rw [hs] at h; cases h
        | some r =>
          rw [hs] at h
          rw [stepT_spec (s' := r.1) (t' := r.2) hs]
          exact topG_of h
noncomputable def T0 (P : Params) : BT := (boot_heap P).objs.toList.zipIdx.foldl (fun t q => t.ins q.2 q.1) .nil
theorem T0_abs (P : Params) : absHeap (T0 P) 11 {} = boot_heap P := by kernel_rfl
noncomputable def S0 (w : World) (os : OsState) : SharedT := ⟨T0 w.params, 11, {}, #[], boot_drawn, boot_toks, os⟩
noncomputable abbrev qv : Program := view pg [91]
noncomputable abbrev lo : List Str := pg.boundNames.filter fun x => !(x == Str.ofString "law" || startupNames.contains x)
theorem op0 : ∀ w : World, (fencedOpening treeTable pg w 4000).map (fun s => (s.heap, s.gens, s.drawn, s.toks)) = some (boot_heap w.params, Array.mk [], boot_drawn, boot_toks) :=
  boot_open (by kernel_rfl) (by decide) fun s => by kernel_rfl
theorem sz0 : ∀ w : World, ((boot_heap w.params).isNs mainGlobals && (Array.mk ([] : List GenState)).size == 0, (boot_heap w.params).objs.size, (boot_heap w.params).nsMap mainGlobals "__annotations__") = (true, 11, some (.ref 6)) := fun w => by kernel_rfl
noncomputable def runT (w : World) (os : OsState) : Option SharedT := topG (stepOk 11 (some (.ref 6))) (stepT (denote treeTable) pg w) 4000 (S0 w os) (topStub pg)
noncomputable def runQ (w : World) (os : OsState) : Option SharedT := topG (Fast.tw6613529449190102663 11 (some (.ref 6))) (Fast.tw10156331382660048174 (Fast.tw11892475500146522536 Fast.tw14364793385576792824) pg w) 4000 (S0 w os) (topStub pg)
theorem runQ_eq : runT = runQ := by
  funext w os
  unfold runT runQ
  rw [Fast.te6613529449190102663, Fast.te10156331382660048174, Fast.te11892475500146522536, Fast.te14364793385576792824]
noncomputable abbrev Xt : Shared → Bool := fun s => xlAt qv [] s && recOk (RowW.records PySem.Challenge.rw_nz0499_01.row.toRowW) s
theorem look_in {α : Type} : ∀ {l : List (Nat × α)} {a : Nat} {o : α}, l.lookup a = some o → (a, o) ∈ l
  | (b, p) :: l, a, o, e => by
    rw [List.lookup_cons] at e
    split at e
    · rename_i q; cases e; rw [beq_iff_eq.mp q]; exact .head _
    · exact .tail _ (look_in e)
theorem get_alive {h : Heap} {a : Nat} {o : Obj} (e : h.objs[a]? = some o) : h.get? a = alive o := by
  unfold Heap.get?
  rw [e]
  obtain ⟨c, d, dt, sl⟩ := o
  cases dt <;> rfl
noncomputable def frag (h : Heap) : Frag := h.objs.toList.zipIdx.filterMap fun q => (alive q.1).map fun o => (q.2, o)
theorem frag_in (h : Heap) : (frag h).In h := fun a o e => by
  have e := look_in e
  unfold frag at e
  obtain ⟨q, h0, h1⟩ := List.mem_filterMap.mp e
  obtain ⟨o', h2, h3⟩ := Option.map_eq_some_iff.mp h1
  cases h3
  have h4 := List.mem_zipIdx_iff_getElem?.mp h0
  rw [Array.getElem?_toList] at h4
  rw [get_alive h4, h2]
noncomputable def Yf (s : Shared) : ObK := obsK (frag s.heap)
noncomputable def Zf (w : World) (s : Shared) : Bool := staticsOk (importedModules pg.main.body) (boot_heap w.params) s.heap && namesBound pg s.heap && gensDone s && laidKept (boot_heap w.params) s.heap
theorem rA : ∀ w os, (runQ w os).map (fun s => (Zf w s.abs, Fast.tw4187177175401517315 qv lo (importedModules pg.main.body) Xt true s.abs, (frag s.abs.heap).lookup 75, (frag s.abs.heap).lookup 55, bO (frag s.abs.heap))) = some (true, openGood qv lo, obsR.2) := fun w os => by kernel_rfl
theorem rB : ∀ w os, (runQ w os).map (fun s => fB (frag s.abs.heap)) = some obsR.1 := fun w os => by kernel_rfl
theorem runs (w : World) (os : OsState) : ∃ s, runQ w os = some s ∧ Zf w s.abs = true ∧ openSeen qv lo (importedModules pg.main.body) Xt true s.abs = openGood qv lo ∧ Yf s.abs = obsR := by
  obtain ⟨s, h1, h2⟩ := Option.map_eq_some_iff.mp (rA w os)
  obtain ⟨s', h3, h4⟩ := Option.map_eq_some_iff.mp (rB w os)
  rw [h1] at h3
  cases h3
  obtain ⟨a, b⟩ := Prod.mk.inj h2
  obtain ⟨c, d⟩ := Prod.mk.inj b
  rw [← Fast.te4187177175401517315] at c
  exact ⟨s, h1, a, c, Prod.ext h4 d⟩
theorem begun {s : Shared} {H : Heap} {g : Array GenState} {d : Drawn} {k : Nat} (e : some (s.heap, s.gens, s.drawn, s.toks) = some (H, g, d, k)) : s = ⟨H, g, d, k, s.os⟩ := by
  obtain ⟨rfl, e1⟩ := Prod.mk.inj (Option.some.inj e)
  obtain ⟨rfl, e2⟩ := Prod.mk.inj e1
  obtain ⟨rfl, rfl⟩ := Prod.mk.inj e2
  rfl
theorem top_at (w : World) (os : OsState) : ∃ s, topFrom treeTable pg w 4000 ⟨boot_heap w.params, Array.mk [], boot_drawn, boot_toks, os⟩ = some s ∧ openSeen qv lo (importedModules pg.main.body) Xt true s = openGood qv lo ∧ Yf s = obsR := by
  obtain ⟨s, h1, h2, h3, h4⟩ := runs w os
  have h5 := topG_of ((congrFun (congrFun runQ_eq w) os).trans h1)
  rw [show (S0 w os).abs = ⟨boot_heap w.params, Array.mk [], boot_drawn, boot_toks, os⟩ from congrArg (fun h => (⟨h, Array.mk [], boot_drawn, boot_toks, os⟩ : Shared)) (T0_abs w.params)] at h5
  have z := sz0 w
  refine ⟨s.abs, ?_, h3, h4⟩
  have z1 : ((boot_heap w.params).isNs mainGlobals && (Array.mk ([] : List GenState)).size == 0) = true := congrArg Prod.fst z
  have z2 : (boot_heap w.params).objs.size = 11 := congrArg (fun x => x.2.1) z
  have z3 : (boot_heap w.params).nsMap mainGlobals "__annotations__" = some (.ref 6) := congrArg (fun x => x.2.2) z
  have h2 : (staticsOk (importedModules pg.main.body) (boot_heap w.params) s.abs.heap && namesBound pg s.abs.heap && gensDone s.abs && laidKept (boot_heap w.params) s.abs.heap) = true := h2
  simp only [topFrom, z1, z2, z3, h5, h2, Option.bind_some]
theorem left : LeftO pg qv lo Xt Yf (fun _ => obsR) 4000 true := fun w => by
  have h0 := op0 w
  unfold openEnds
  cases hf : fencedOpening treeTable pg w 4000 with
  | none => rw [hf] at h0; cases h0
  | some s₀ =>
    rw [hf] at h0
    obtain ⟨s, t1, t2, t3⟩ := top_at w s₀.os
    rw [Option.bind_some, begun h0, t1]
    exact congrArg some (Prod.ext t2 t3)
noncomputable def YP (_ : World) (h : Heap) : Prop := ∃ K : Frag, K.In h ∧ KF K
theorem YP_of (w : World) (s : Shared) (h : Yf s = obsR) : YP w s.heap := ⟨frag s.heap, frag_in _, kf_of h⟩
theorem YP_keeps (w : World) (h h' : Heap) (x : YP w h) (k : ∀ b o, h.get? b = some o → h'.get? b = some o) : YP w h' := by
  obtain ⟨K, a, b⟩ := x
  exact ⟨K, a.keeps k, b⟩
theorem df0 : (defOf qv PySem.Challenge.rw_nz0499_01.row.toRowW.name).isSome = true := by kernel_rfl
noncomputable def dk : DefRec × List (Str × PySem.Expr) := (defOf qv PySem.Challenge.rw_nz0499_01.row.toRowW.name).get df0
theorem df1 : defOf qv PySem.Challenge.rw_nz0499_01.row.toRowW.name = some (dk.1, dk.2) := (Option.some_get df0).symm
theorem df2 : PySem.Challenge.rw_nz0499_01.row.toRowW.prog.theDef PySem.Challenge.rw_nz0499_01.row.toRowW.name = some (dk.1.params, dk.1.body, dk.1.scope) := by kernel_rfl
theorem df3 : kwWritten? dk.1.params.kwonlyargs dk.1.params.kw_defaults = some dk.2 := by kernel_rfl
theorem ok0 : (chainsOk qv && opensWell PySem.Challenge.rw_nz0499_01.row.toRowW.prog && (frees PySem.Challenge.rw_nz0499_01.row.toRowW && PySem.Challenge.rw_nz0499_01.row.toRowW.within.isEmpty)) = true := by kernel_rfl
end Mine.Internal
end
section
open PySem PySem.W PyProof.Rows
set_option maxRecDepth 1000000
set_option maxHeartbeats 0
namespace Mine.Internal
theorem wsN : namesResolve PySem.Challenge.rw_nz0499_01.row.toRowW.prog = true := by kernel_rfl
theorem wsM : namesMeet PySem.Challenge.rw_nz0499_01.row.toRowW.prog PySem.Challenge.rw_nz0499_01.row.toRowW.prog.main.body (fun _ n => attrL n) = true := by kernel_rfl
theorem wsL : looksOpen PySem.Challenge.rw_nz0499_01.row.toRowW.prog = true := by
  unfold looksOpen
  rw [wsN, wsM]
  kernel_rfl
theorem wsR : PySem.Challenge.rw_nz0499_01.row.wellSaid = true := by
  unfold OpenRow.wellSaid OpenRow.partSaid
  rw [wsL]
  kernel_rfl
theorem ws0 : PySem.Challenge.rw_nz0499_01.wellSaid = true := by
  unfold OpenLaw.wellSaid
  rw [wsR]
  kernel_rfl
theorem wit0 : PySem.Challenge.rw_nz0499_01.row.toRowW.promised := by w_witness2
end Mine.Internal
end
section
open PySem PySem.W PyProof.Rows
set_option maxRecDepth 100000
set_option maxHeartbeats 8000000
theorem Mine.Internal.hx (said : PySem.Challenge.rw_nz0499_01.row.wellSaid = true) (hw : PySem.Challenge.rw_nz0499_01.row.toRowW.promised) : PySem.Challenge.rw_nz0499_01.row.Holds := by
  refine holds_open (q := Mine.Internal.qv) (loose := Mine.Internal.lo) (Xt := Mine.Internal.Xt) (XP := XL Mine.Internal.qv []) (Yf := Mine.Internal.Yf) (Ya := fun _ => Mine.Internal.obsR) (YP := Mine.Internal.YP) (N := 4000) Mine.Internal.left Mine.Internal.YP_of Mine.Internal.YP_keeps (fun s e => xl_of s (Bool.and_eq_true_iff.mp e).1) XL.keeps Mine.Internal.df1 Mine.Internal.df2 Mine.Internal.df3 (fun s e => recFacts_of (Bool.and_eq_true_iff.mp e).2) (by kernel_rfl) said Mine.Internal.ok0 ⟨rfl, rfl, rfl, rfl, rfl, by decide +kernel⟩ hw ?_
  intro w s₀ s₁ mg mb G Y fa o pm cd doc dV kV ho hd hcd hD hmg hg args vals as hpre hlay hrd hwl hlo
  obtain ⟨K, KX, F⟩ := Y
  refine Ground.open G ?_
  intro T B D TE TW
  clear hd hcd
  wrow_args hpre hlay hrd hwl hlo
  refine enter_call ?_
  have O : Mine.Internal.CxOK ⟨PySem.Challenge.rw_nz0499_01.row.prog, w, K, s₁.heap, mg, mb, _, _, Mine.Internal.cAd, Mine.Internal.fAd, 75⟩ := ⟨KX, topRead_of T, Top.seer T (by decide +kernel), rfl⟩
  have hfa : fa = 611 := by
    have h1 : mg (Str.ofString "law") = some (.ref 611) := mg_of KX T.g (Mine.Internal.glF_at F .f_law rfl).1
    have h0 : Mine.Internal.dk.1.name = Str.ofString "law" := by kernel_rfl
    rw [h0, h1] at hmg
    exact (Value.ref.inj (Option.some.inj hmg)).symm
  subst hfa
  refine Mine.Internal.law_walk (cx := ⟨PySem.Challenge.rw_nz0499_01.row.prog, w, K, s₁.heap, mg, mb, _, _, Mine.Internal.cAd, Mine.Internal.fAd, 75⟩) F rfl rfl rfl O (ns := ?_) ?_ rfl (by assumption) (by assumption) ?_
  · rename_i h _
    omega
  · intro h' tk' hk
    exact ⟨.inl ⟨.bool true, .bool true, [], rfl, fun _ => rfl, .bool true, by kernel_rfl, fun _ => ⟨by simp, by simp⟩⟩, .of_keep hk, rfl, .of_eq hg⟩
end
theorem PySem.Challenge.cw_nz0499_01_holds : PySem.Challenge.rw_nz0499_01.Holds :=
  PySem.W.holds_law Mine.Internal.ws0 fun said => Mine.Internal.hx said Mine.Internal.wit0
